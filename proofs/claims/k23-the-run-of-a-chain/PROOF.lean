import PyProof.Rows.All
import Wide.All
import OpenK.AllK
import Wide.FinOn
import HandS.ForMost
import HandS.Exc
import HandS.ExcOwn
import HandS.WordsExc
import HandS.CallSlots
import HandS.Wide
import HandS.Slots
import HandS.TupAny
import HandS.Deep
import HandS.TupLe
import HandS.ExcInit
import HandS.ExcField
import HandS.ExcIs
import HandS.TryMany
import HandS.More
import HandS.SetFor
import HandS.Small
import HandS.Text
import HandS.IsInst
import HandS.Codes
import KE.KExcIs
import HandS.HotCalls
import HandS.OwnEq
import HandS.IterNext
import HandS.IterVal
import HandS.OwnIter
import HandS.Finally
import HandS.ExcInitHot
import HandS.EndBits
import HandS.Conv
import HandS.DictComp
import HandS.Iter
import HandS.TupLen
import KE.KEqDict
import HandS.ExcValue
import KE.KDictWalk
import HandS.Defaults
import HandS.Lambda
import HandS.FStr
import PyProof.FString3
import PyProof.Rows.StrIntSpec
import KE.KStrBytes
import HandS.Bytes
import HandS.StrMore
import HandS.SlotsOwn
import HandS.Property
import KE.KBytesDec
import KE.KBytesMap
import Wide.BytesFacts
import KE.IntTextLaws
import KE.KBytesCut
import HandS.Style
import KE.KDictCopyH
import KE.KDictOf
import HandS.Flow
import KE.KExcRaise
import KE.KSuper
import HandS.ClsMeth
import KE.KStateDown
import HandS.Head0
import HandS.Head1
import HandS.Head2
import HandS.HeadEnd
import HandS.HeadHook1
import HandS.GenList
import HandS.TupSets
import PyProof.CollectIter
import HandS.Star
import HandS.HeadNt
import HandS.Zip
import PySem.Challenge.RW_partkeepers_k23_the_run_of_a_chain
set_option Elab.async false
set_option linter.all false
set_option maxRecDepth 100000
namespace Z
open PySem PySem.Spec PyProof.Rows L2
inductive W where
  | non
  | bl (b : Bool)
  | int (i : Int)
  | str (x : Str)
  | byt (b : Array UInt8)
  | tup (ws : List W)
  | lst (ws : List W)
  | frl (ws : List W)
  | dK (kvs : List (Key × W))
  | dT (kvs : List (List Key × W))
  | dF (kvs : List (List Key × W))
  | obj (nm : Str) (fs : List (Str × W))
  | slt (nm : Str) (ws : List W)
  | ref (n : Nat)
instance : Inhabited W := ⟨.non⟩
inductive Cell where
  | lst (ws : List W)
  | dK (kvs : List (Key × W))
  | dT (kvs : List (List Key × W))
  | ins (nm : Str) (fs : List (Str × W))
def Cell.toW : Cell → W
  | .lst ws => .lst ws
  | .dK k => .dK k
  | .dT k => .dT k
  | .ins n f => .obj n f
@[simp] theorem toW_lst {ws : List W} : (Cell.lst ws).toW = .lst ws := rfl
@[simp] theorem toW_dK {ws : List (Key × W)} : (Cell.dK ws).toW = .dK ws := rfl
@[simp] theorem toW_dT {ws : List (List Key × W)} : (Cell.dT ws).toW = .dT ws := rfl
@[simp] theorem toW_ins {n : Str} {ws : List (Str × W)} : (Cell.ins n ws).toW = .obj n ws := rfl
structure Ex where
  nm : Str
  fs : List (Str × W)
inductive SV where
  | non
  | val (w : W)
  | own (c : Cell)
  | exc (x : Ex)
structure EA where
  a : Addr
  cls : Value
  d : Option Addr
def ea0 : EA := ⟨0, .none, none⟩
inductive RV where
  | val (w : W)
  | own (c : Cell)
  | hnd (i : Nat)
structure S where
  r : List SV
  G : List Cell
section
variable (K : PySem.W.Frag) (mg : Str → Option Value)
def KT (a : Addr) (vs : List V) : Prop := ∃ (o : Obj) (its : Array Value) (n : Nat), K.lookup a = some o ∧ o.cls = .type "tuple" ∧ o.data = .seq its n ∧ its.size ≤ sizeLine ∧ Vals vs its.toList
def KL (a : Addr) (vs : List V) : Prop := ∃ (o : Obj) (its : Array Value) (n : Nat), K.lookup a = some o ∧ o.cls = .type "list" ∧ o.dict = none ∧ o.data = .seq its n ∧ its.size ≤ sizeLine ∧ Vals vs its.toList
inductive Rw (io : List Addr) (M : Addr → Prop) (H : Hp) : W → V → Prop
  | non : Rw io M H .non .non
  | bl (b : Bool) : Rw io M H (.bl b) (.bl b)
  | int (i : Int) : Rw io M H (.int i) (.int i)
  | str (x : Str) : Rw io M H (.str x) (.str x)
  | byt (b : Array UInt8) : Rw io M H (.byt b) (.byt b)
  | tup {ws : List W} {a : Addr} {vs : List V} : ((H a = some (.tup vs) ∧ ¬ M a) ∨ (KT K a vs ∧ vs = [])) → ws.length = vs.length → (∀ (i : Nat) (w : W) (v : V), ws[i]? = some w → vs[i]? = some v → Rw io M H w v) → Rw io M H (.tup ws) (.ref a)
  | frl {ws : List W} {a : Addr} {vs : List V} : ((Rd H a (.lst vs) ∧ ¬ M a) ∨ KL K a vs) → ws.length = vs.length → (∀ (i : Nat) (w : W) (v : V), ws[i]? = some w → vs[i]? = some v → Rw io M H w v) → Rw io M H (.frl ws) (.ref a)
  | lst {ws : List W} {a : Addr} {vs : List V} : H a = some (.lst vs) → ¬ M a → ws.length = vs.length → (∀ (i : Nat) (w : W) (v : V), ws[i]? = some w → vs[i]? = some v → Rw io M H w v) → Rw io M H (.lst ws) (.ref a)
  | dK {ws : List (Key × W)} {a : Addr} {vs : List (Key × V)} : Rd H a (.dK vs) → ¬ M a → ws.map (·.1) = vs.map (·.1) → (∀ (i : Nat) (w : W) (v : V), (ws.map (·.2))[i]? = some w → (vs.map (·.2))[i]? = some v → Rw io M H w v) → Rw io M H (.dK ws) (.ref a)
  | dT {ws : List (List Key × W)} {a : Addr} {vs : List (List Key × V)} : Rd H a (.dT vs) → ¬ M a → ws.map (·.1) = vs.map (·.1) → (∀ (i : Nat) (w : W) (v : V), (ws.map (·.2))[i]? = some w → (vs.map (·.2))[i]? = some v → Rw io M H w v) → Rw io M H (.dT ws) (.ref a)
  | dF {ws : List (List Key × W)} {a : Addr} {ob : Obj} {vs : List (List Key × V)} : H a = some (.frz ob (.dT vs)) → ¬ M a → ws.map (·.1) = vs.map (·.1) → (∀ (i : Nat) (w : W) (v : V), (ws.map (·.2))[i]? = some w → (vs.map (·.2))[i]? = some v → Rw io M H w v) → Rw io M H (.dF ws) (.ref a)
  | obj {nm : Str} {ws : List (Str × W)} {a C dx : Addr} {vs : List (Str × V)} : mg nm = some (.ref C) → H a = some (.ins C dx vs) → ¬ M a → ws.map (·.1) = vs.map (·.1) → (∀ (i : Nat) (w : W) (v : V), (ws.map (·.2))[i]? = some w → (vs.map (·.2))[i]? = some v → Rw io M H w v) → Rw io M H (.obj nm ws) (.ref a)
  | slt {nm : Str} {ws : List W} {a C dx : Addr} {vs : List V} : mg nm = some (.ref C) → H a = some (SlX.SlO a C dx (vs.map some)) → ¬ M a → H dx = some (.xd []) → ¬ M dx → ws.length = vs.length → (∀ (i : Nat) (w : W) (v : V), ws[i]? = some w → vs[i]? = some v → Rw io M H w v) → Rw io M H (.slt nm ws) (.ref a)
  | ref {n : Nat} {a : Addr} : io[n]? = some a → Rw io M H (.ref n) (.ref a)
def Rws (io : List Addr) (M : Addr → Prop) (H : Hp) (ws : List W) (vs : List V) : Prop :=
  ws.length = vs.length ∧ ∀ (i : Nat) (w : W) (v : V), ws[i]? = some w → vs[i]? = some v → Rw K mg io M H w v
def Rkv {κ : Type} (io : List Addr) (M : Addr → Prop) (H : Hp) (ws : List (κ × W)) (vs : List (κ × V)) : Prop :=
  ws.map (·.1) = vs.map (·.1) ∧ Rws K mg io M H (ws.map (·.2)) (vs.map (·.2))
end
section
variable {K : PySem.W.Frag} {mg : Str → Option Value} {io io' : List Addr} {M M' : Addr → Prop} {H H' : Hp} {w : W} {v : V} {ws : List W} {vs : List V}
structure Pers (io : List Addr) (M : Addr → Prop) (H : Hp) (io' : List Addr) (M' : Addr → Prop) (H' : Hp) : Prop where
  keep : ∀ a o, H a = some o → ¬ M a → H' a = some o
  new : ∀ a, M' a → M a ∨ H a = none
  ext : ∀ (n : Nat) (a : Addr), io[n]? = some a → io'[n]? = some a
theorem Pers.notin (p : Pers io M H io' M' H') {a : Addr} {o : HO} (h : H a = some o) (hM : ¬ M a) : ¬ M' a := fun z => by
  rcases p.new a z with q | q
  · exact hM q
  · rw [h] at q; cases q
theorem Rd.some_of {a : Addr} {u : HO} (h : Rd H a u) : ∃ o, H a = some o := by
  rcases h with h | ⟨o, h⟩
  · exact ⟨_, h⟩
  · exact ⟨_, h⟩
theorem Pers.rd (p : Pers io M H io' M' H') {a : Addr} {u : HO} (h : Rd H a u) (hM : ¬ M a) : Rd H' a u := by
  rcases h with h | ⟨o, h⟩
  · exact .inl (p.keep _ _ h hM)
  · exact .inr ⟨o, p.keep _ _ h hM⟩
theorem Pers.notin' (p : Pers io M H io' M' H') {a : Addr} {u : HO} (h : Rd H a u) (hM : ¬ M a) : ¬ M' a :=
  let ⟨_, q⟩ := Rd.some_of h
  p.notin q hM
theorem Rw.pers (p : Pers io M H io' M' H') (h : Rw K mg io M H w v) : Rw K mg io' M' H' w v := by
  induction h with
  | non => exact .non
  | bl b => exact .bl b
  | int i => exact .int i
  | str x => exact .str x
  | byt b => exact .byt b
  | tup h l _ ih => exact .tup (h.imp (fun ⟨x, y⟩ => ⟨p.keep _ _ x y, p.notin x y⟩) id) l ih
  | frl h l _ ih => exact .frl (h.imp (fun ⟨x, y⟩ => ⟨p.rd x y, p.notin' x y⟩) id) l ih
  | lst h n l _ ih => exact .lst (p.keep _ _ h n) (p.notin h n) l ih
  | dK h n l _ ih => exact .dK (p.rd h n) (p.notin' h n) l ih
  | dT h n l _ ih => exact .dT (p.rd h n) (p.notin' h n) l ih
  | dF h n l _ ih => exact .dF (p.keep _ _ h n) (p.notin h n) l ih
  | obj m h n l _ ih => exact .obj m (p.keep _ _ h n) (p.notin h n) l ih
  | slt m h n h2 n2 l _ ih => exact .slt m (p.keep _ _ h n) (p.notin h n) (p.keep _ _ h2 n2) (p.notin h2 n2) l ih
  | ref h => exact .ref (p.ext _ _ h)
theorem Rws.pers (p : Pers io M H io' M' H') (h : Rws K mg io M H ws vs) : Rws K mg io' M' H' ws vs := ⟨h.1, fun i w v a b => (h.2 i w v a b).pers p⟩
theorem Rkv.pers {κ : Type} {ws : List (κ × W)} {vs : List (κ × V)} (p : Pers io M H io' M' H') (h : Rkv K mg io M H ws vs) : Rkv K mg io' M' H' ws vs := ⟨h.1, h.2.pers p⟩
theorem Pers.refl : Pers io M H io M H := ⟨fun _ _ h _ => h, fun _ h => .inl h, fun _ _ h => h⟩
theorem Pers.less (h : ∀ a, M' a → M a) : Pers io M H io M' H := ⟨fun _ _ h _ => h, fun a z => .inl (h a z), fun _ _ h => h⟩
theorem Rws.nil : Rws K mg io M H [] [] := ⟨rfl, fun i w v h => by simp at h⟩
theorem Rws.cons (h : Rw K mg io M H w v) (t : Rws K mg io M H ws vs) : Rws K mg io M H (w :: ws) (v :: vs) := by
  refine ⟨by simp [t.1], fun i a b ha hb => ?_⟩
  cases i with
  | zero => simp at ha hb; subst ha; subst hb; exact h
  | succ i => exact t.2 i a b (by simpa using ha) (by simpa using hb)
theorem Rws.cons_inv (h : Rws K mg io M H (w :: ws) vs) : ∃ v r, vs = v :: r ∧ Rw K mg io M H w v ∧ Rws K mg io M H ws r := by
  cases vs with
  | nil => have := h.1; simp at this
  | cons v r => exact ⟨v, r, rfl, h.2 0 w v rfl rfl, by have := h.1; simpa using this, fun i a b ha hb => h.2 (i + 1) a b (by simpa using ha) (by simpa using hb)⟩
theorem Rws.nil_inv (h : Rws K mg io M H [] vs) : vs = [] := by
  have := h.1
  cases vs with
  | nil => rfl
  | cons _ _ => simp at this
theorem Rws.get (h : Rws K mg io M H ws vs) {i : Nat} (e : ws[i]? = some w) : ∃ v, vs[i]? = some v ∧ Rw K mg io M H w v := by
  have hi : i < ws.length := by
    rcases Nat.lt_or_ge i ws.length with q | q
    · exact q
    · rw [List.getElem?_eq_none_iff.mpr q] at e; cases e
  have hv : i < vs.length := by rw [← h.1]; exact hi
  exact ⟨vs[i], by simp [hv], h.2 i w _ e (by simp [hv])⟩
theorem Rws.append {ws' : List W} {vs' : List V} (h : Rws K mg io M H ws vs) (t : Rws K mg io M H ws' vs') : Rws K mg io M H (ws ++ ws') (vs ++ vs') := by
  refine ⟨by simp [h.1, t.1], fun i a b ha hb => ?_⟩
  rcases Nat.lt_or_ge i ws.length with q | q
  · rw [List.getElem?_append_left q] at ha
    rw [List.getElem?_append_left (by rw [← h.1]; exact q)] at hb
    exact h.2 i a b ha hb
  · rw [List.getElem?_append_right q] at ha
    rw [List.getElem?_append_right (by rw [← h.1]; exact q)] at hb
    rw [← h.1] at hb
    exact t.2 _ a b ha hb
theorem Rws.one (h : Rw K mg io M H w v) : Rws K mg io M H [w] [v] := Rws.cons h Rws.nil
theorem Rws.set (h : Rws K mg io M H ws vs) {i : Nat} (hw : Rw K mg io M H w v) : Rws K mg io M H (ws.set i w) (vs.set i v) := by
  refine ⟨by simp [h.1], fun j a b ha hb => ?_⟩
  by_cases e : i = j
  · subst e
    rcases Nat.lt_or_ge i ws.length with q | q
    · rw [List.getElem?_set_self q] at ha
      rw [List.getElem?_set_self (by rw [← h.1]; exact q)] at hb
      cases ha; cases hb; exact hw
    · rw [List.getElem?_eq_none (by simpa using q)] at ha; cases ha
  · rw [List.getElem?_set_ne e] at ha hb
    exact h.2 j a b ha hb
theorem Rws.take (h : Rws K mg io M H ws vs) (n : Nat) : Rws K mg io M H (ws.take n) (vs.take n) := by
  refine ⟨by simp [h.1], fun i a b ha hb => ?_⟩
  rw [List.getElem?_take] at ha hb
  split at ha
  · rename_i q
    rw [if_pos q] at hb
    exact h.2 i a b ha hb
  · cases ha
theorem Rws.drop (h : Rws K mg io M H ws vs) (n : Nat) : Rws K mg io M H (ws.drop n) (vs.drop n) := by
  refine ⟨by simp [h.1], fun i a b ha hb => ?_⟩
  rw [List.getElem?_drop] at ha hb
  exact h.2 _ a b ha hb
theorem Rkv.nil {κ : Type} : Rkv (κ := κ) K mg io M H [] [] := ⟨rfl, Rws.nil⟩
theorem Rkv.cons {κ : Type} {k : κ} {ws : List (κ × W)} {vs : List (κ × V)} (h : Rw K mg io M H w v) (t : Rkv K mg io M H ws vs) : Rkv K mg io M H ((k, w) :: ws) ((k, v) :: vs) := ⟨by simp [t.1], Rws.cons h t.2⟩
theorem Rkv.cons_inv {κ : Type} {k : κ} {ws : List (κ × W)} {vs : List (κ × V)} (h : Rkv K mg io M H ((k, w) :: ws) vs) : ∃ v r, vs = (k, v) :: r ∧ Rw K mg io M H w v ∧ Rkv K mg io M H ws r := by
  cases vs with
  | nil => have := h.1; simp at this
  | cons p r =>
    obtain ⟨k', v⟩ := p
    have e := h.1
    simp only [List.map_cons, List.cons.injEq] at e
    obtain ⟨v', r', e', h1, h2⟩ := Rws.cons_inv (by simpa using h.2 : Rws K mg io M H (w :: ws.map (·.2)) (((k', v) :: r).map (·.2)))
    simp only [List.map_cons, List.cons.injEq] at e'
    obtain ⟨rfl, e2⟩ := e'
    obtain ⟨rfl, e1⟩ := e
    exact ⟨v, r, rfl, h1, e1, by rw [e2]; exact h2⟩
theorem Rkv.nil_inv {κ : Type} {vs : List (κ × V)} (h : Rkv K mg io M H [] vs) : vs = [] := by
  have := h.1
  cases vs with
  | nil => rfl
  | cons _ _ => simp at this
theorem Rkv.length {κ : Type} {ws : List (κ × W)} {vs : List (κ × V)} (h : Rkv K mg io M H ws vs) : ws.length = vs.length := by
  have := congrArg List.length h.1
  simpa using this
theorem Rkv.lookup {κ : Type} [BEq κ] {k : κ} {vs : List (κ × V)} : ∀ {ws : List (κ × W)} {vs : List (κ × V)}, Rkv K mg io M H ws vs → ws.lookup k = some w → ∃ v, vs.lookup k = some v ∧ Rw K mg io M H w v
  | [], _, _, e => by simp at e
  | (k', w') :: ws, vs, h, e => by
    obtain ⟨v, r, rfl, h1, h2⟩ := Rkv.cons_inv h
    by_cases q : (k == k') = true
    · rw [List.lookup_cons, q] at e
      simp at e
      subst e
      exact ⟨v, by rw [List.lookup_cons, q], h1⟩
    · have q' : (k == k') = false := by simpa using q
      rw [List.lookup_cons, q'] at e
      obtain ⟨u, h3, h4⟩ := Rkv.lookup (vs := r) h2 e
      exact ⟨u, by rw [List.lookup_cons, q']; exact h3, h4⟩
def Nt (o : HO) : Prop := ∀ vs, o ≠ .tup vs
theorem Nt.of {H : Hp} {a : Addr} {o : HO} (h : H a = some o) (n : Nt o) (vs : List V) : H a ≠ some (.tup vs) := fun z => n vs (Option.some.inj (h.symm.trans z))
def Rc (K : PySem.W.Frag) (mg : Str → Option Value) (io : List Addr) (M : Addr → Prop) (H : Hp) : Cell → HO → Prop
  | .lst ws, o => ∃ vs, o = .lst vs ∧ Rws K mg io M H ws vs
  | .dK ws, o => ∃ vs, o = .dK vs ∧ Rkv K mg io M H ws vs
  | .dT ws, o => ∃ vs, o = .dT vs ∧ Rkv K mg io M H ws vs
  | .ins nm ws, o => ∃ C dx vs, o = .ins C dx vs ∧ mg nm = some (.ref C) ∧ Rkv K mg io M H ws vs
variable {c : Cell} {o : HO}
theorem Rc.pers (p : Pers io M H io' M' H') (h : Rc K mg io M H c o) : Rc K mg io' M' H' c o := by
  cases c with
  | lst ws => obtain ⟨vs, e, h⟩ := h; exact ⟨vs, e, h.pers p⟩
  | dK ws => obtain ⟨vs, e, h⟩ := h; exact ⟨vs, e, h.pers p⟩
  | dT ws => obtain ⟨vs, e, h⟩ := h; exact ⟨vs, e, h.pers p⟩
  | ins nm ws => obtain ⟨C, dx, vs, e, m, h⟩ := h; exact ⟨C, dx, vs, e, m, h.pers p⟩
theorem Rc.froze {a : Addr} (h : Rc K mg io M H c o) (ha : H a = some o) (hn : ¬ M a) : Rw K mg io M H c.toW (.ref a) := by
  cases c with
  | lst ws => obtain ⟨vs, rfl, h⟩ := h; exact .lst ha hn h.1 h.2
  | dK ws => obtain ⟨vs, rfl, h⟩ := h; exact .dK (.inl ha) hn h.1 h.2.2
  | dT ws => obtain ⟨vs, rfl, h⟩ := h; exact .dT (.inl ha) hn h.1 h.2.2
  | ins nm ws => obtain ⟨C, dx, vs, rfl, m, h⟩ := h; exact .obj m ha hn h.1 h.2.2
theorem Rc.nt (h : Rc K mg io M H c o) : Nt o := by
  cases c with
  | lst ws => obtain ⟨vs, rfl, h⟩ := h; intro _ z; cases z
  | dK ws => obtain ⟨vs, rfl, h⟩ := h; intro _ z; cases z
  | dT ws => obtain ⟨vs, rfl, h⟩ := h; intro _ z; cases z
  | ins nm ws => obtain ⟨C, dx, vs, rfl, m, h⟩ := h; intro _ z; cases z
def ExR (K : PySem.W.Frag) (mg : Str → Option Value) (io : List Addr) (M : Addr → Prop) (H : Hp) (x : Ex) (cls : Value) (d : Option Addr) : Prop :=
  ∃ C, mg x.nm = some (.ref C) ∧ cls = .ref C ∧ ((x.fs = [] ∧ d = none) ∨ ∃ dd vs, d = some dd ∧ H dd = some (.xd vs) ∧ ¬ M dd ∧ Rkv K mg io M H x.fs vs)
theorem ExR.pers {x : Ex} {cls : Value} {d : Option Addr} (p : Pers io M H io' M' H') (h : ExR K mg io M H x cls d) : ExR K mg io' M' H' x cls d := by
  obtain ⟨C, h1, h2, h3⟩ := h
  refine ⟨C, h1, h2, h3.imp id ?_⟩
  rintro ⟨dd, vs, e1, e2, e3, e4⟩
  exact ⟨dd, vs, e1, p.keep _ _ e2 e3, p.notin e2 e3, e4.pers p⟩
def Mu (io : List Addr) (Fr : Addr → Prop) : Addr → Prop := fun a => a ∈ io ∨ Fr a
structure GSim (K : PySem.W.Frag) (mg : Str → Option Value) (io : List Addr) (Fr : Addr → Prop) (G : List Cell) (H : Hp) : Prop where
  len : io.length = G.length
  cell : ∀ (n : Nat) (a : Addr) (c : Cell), io[n]? = some a → G[n]? = some c → ∃ o, H a = some o ∧ Rc K mg io (Mu io Fr) H c o
  nd : io.Nodup
  dj : ∀ a ∈ io, ¬ Fr a
  fr : ∀ a, Fr a → ∃ o, H a = some o ∧ Nt o
def FrO (Fr : Addr → Prop) (r : List SV) (σ : L2.St) : Addr → Prop := fun a => Fr a ∨ ∃ (i : Nat) (c : Cell), r[i]? = some (.own c) ∧ σ[i]? = some (some (V.ref a))
structure Sim (K : PySem.W.Frag) (mg : Str → Option Value) (ea : EA) (io : List Addr) (Fr : Addr → Prop) (s : S) (σ : L2.St) (H : Hp) : Prop where
  len : s.r.length = σ.length
  g : GSim K mg io (FrO Fr s.r σ) s.G H
  val : ∀ (i : Nat) (w : W), s.r[i]? = some (.val w) → ∃ v, σ[i]? = some (some v) ∧ Rw K mg io (Mu io (FrO Fr s.r σ)) H w v
  own : ∀ (i : Nat) (c : Cell), s.r[i]? = some (.own c) → ∃ a o, σ[i]? = some (some (V.ref a)) ∧ H a = some o ∧ Rc K mg io (Mu io (FrO Fr s.r σ)) H c o ∧ ¬ Fr a
  dist : ∀ (i j : Nat) (c d : Cell) (a : Addr), s.r[i]? = some (.own c) → s.r[j]? = some (.own d) → σ[i]? = some (some (V.ref a)) → σ[j]? = some (some (V.ref a)) → i = j
  exc : ∀ (i : Nat) (x : Ex), s.r[i]? = some (.exc x) → σ[i]? = some (some (V.ref ea.a)) ∧ ExR K mg io (Mu io (FrO Fr s.r σ)) H x ea.cls ea.d
structure Stp (io : List Addr) (M : Addr → Prop) (Fr : Addr → Prop) (H : Hp) (io' : List Addr) (M' : Addr → Prop) (H' : Hp) : Prop where
  p : Pers io M H io' M' H'
  fr : ∀ a, Fr a → H' a = H a
  trk : ∀ a o, H a = some o → ∃ o', H' a = some o'
theorem Stp.refl {Fr : Addr → Prop} : Stp io M Fr H io M H := ⟨.refl, fun _ _ => rfl, fun _ o h => ⟨o, h⟩⟩
theorem Pers.trans {io2 : List Addr} {M2 : Addr → Prop} {H2 : Hp} (a : Pers io M H io' M' H') (b : Pers io' M' H' io2 M2 H2) (t : ∀ x o, H x = some o → ∃ o', H' x = some o') : Pers io M H io2 M2 H2 where
  keep := fun x o h hM => b.keep x o (a.keep x o h hM) (a.notin h hM)
  new := fun x h => by
    rcases b.new x h with q | q
    · exact a.new x q
    · refine .inr ?_
      cases e : H x with
      | none => rfl
      | some o =>
        obtain ⟨o', e'⟩ := t x o e
        rw [q] at e'; cases e'
  ext := fun n x h => b.ext n x (a.ext n x h)
theorem Stp.trans {Fr : Addr → Prop} {io2 : List Addr} {M2 : Addr → Prop} {H2 : Hp} (a : Stp io M Fr H io' M' H') (b : Stp io' M' Fr H' io2 M2 H2) : Stp io M Fr H io2 M2 H2 where
  p := a.p.trans b.p a.trk
  fr := fun x h => (b.fr x h).trans (a.fr x h)
  trk := fun x o h => let ⟨o', h'⟩ := a.trk x o h; b.trk x o' h'
end
end Z
set_option Elab.async false
set_option linter.all false
set_option maxRecDepth 100000
namespace Z
open PySem PySem.Spec PyProof.Rows L2
abbrev Mo (α : Type) := S → Option (Except Ex α × S)
inductive FV where
  | val (w : W)
  | own (c : Cell)
inductive Fl where
  | nx
  | bk
  | ct
  | rt (x : FV)
def ret {α : Type} (a : α) : Mo α := fun s => some (.ok a, s)
def stk {α : Type} : Mo α := fun _ => none
def raiseM {α : Type} (x : Ex) : Mo α := fun s => some (.error x, s)
def bnd {α β : Type} (m : Mo α) (f : α → Mo β) : Mo β := fun s => match m s with
  | none => none
  | some (.error x, s') => some (.error x, s')
  | some (.ok a, s') => f a s'
theorem bnd_some {α β : Type} {m : Mo α} {f : α → Mo β} {s : S} {r : Except Ex β} {s' : S} (h : bnd m f s = some (r, s')) :
    (∃ x, m s = some (.error x, s') ∧ r = .error x) ∨ ∃ a s1, m s = some (.ok a, s1) ∧ f a s1 = some (r, s') := by
  unfold bnd at h
  cases e : m s with
  | none => rw [e] at h; cases h
  | some p =>
    obtain ⟨q, s1⟩ := p
    rw [e] at h
    cases q with
    | error x =>
      have h' : some ((Except.error x : Except Ex β), s1) = some (r, s') := h
      cases h'
      exact .inl ⟨x, rfl, rfl⟩
    | ok a => exact .inr ⟨a, s1, rfl, h⟩
theorem bnd_at {α β : Type} {m : Mo α} {f : α → Mo β} {s s1 : S} {a : α} (h : m s = some (.ok a, s1)) : bnd m f s = f a s1 := by
  unfold bnd; rw [h]
section
variable (K : PySem.W.Frag) (mg : Str → Option Value)
def pls (Fr : Addr → Prop) (a : Addr) : Addr → Prop := fun b => Fr b ∨ b = a
def Ms (io : List Addr) (Fr : Addr → Prop) (s : S) (σ : L2.St) : Addr → Prop := Mu io (FrO Fr s.r σ)
def PostE (ea : EA) (io : List Addr) (Fr : Addr → Prop) (s : S) (σ : L2.St) (H : Hp) (s' : S) (io' : List Addr) (H' : Hp) : RV → V → Prop
  | .val w, v => Sim K mg ea io' Fr s' σ H' ∧ Stp io (Ms io Fr s σ) Fr H io' (Ms io' Fr s' σ) H' ∧ Rw K mg io' (Ms io' Fr s' σ) H' w v
  | .hnd i, v => Sim K mg ea io' Fr s' σ H' ∧ Stp io (Ms io Fr s σ) Fr H io' (Ms io' Fr s' σ) H' ∧ σ[i]? = some (some v)
  | .own c, v => ∃ a o, v = .ref a ∧ H' a = some o ∧ ¬ FrO Fr s'.r σ a ∧ Sim K mg ea io' (pls Fr a) s' σ H' ∧ Stp io (Ms io Fr s σ) Fr H io' (Ms io' (pls Fr a) s' σ) H' ∧ Rc K mg io' (Ms io' (pls Fr a) s' σ) H' c o
def PostX (ea : EA) (io : List Addr) (Fr : Addr → Prop) (s : S) (σ : L2.St) (H : Hp) (s' : S) (σ' : L2.St) (io' : List Addr) (H' : Hp) (x : Ex) (cls : Value) (d : Option Addr) : Prop :=
  Sim K mg ea io' Fr s' σ' H' ∧ Stp io (Ms io Fr s σ) Fr H io' (Ms io' Fr s' σ') H' ∧ ExR K mg io' (Ms io' Fr s' σ') H' x cls d
def PostS (ea : EA) (io : List Addr) (Fr : Addr → Prop) (s : S) (σ : L2.St) (H : Hp) (s' : S) (σ' : L2.St) (io' : List Addr) (H' : Hp) : Prop :=
  Sim K mg ea io' Fr s' σ' H' ∧ Stp io (Ms io Fr s σ) Fr H io' (Ms io' Fr s' σ') H'
def PostF (io : List Addr) (M Fr : Addr → Prop) (H : Hp) (G' : List Cell) (io' : List Addr) (H' : Hp) : FV → V → Prop
  | .val w, v => GSim K mg io' Fr G' H' ∧ Stp io M Fr H io' (Mu io' Fr) H' ∧ Rw K mg io' (Mu io' Fr) H' w v
  | .own c, v => ∃ a o, v = .ref a ∧ H' a = some o ∧ ¬ Fr a ∧ GSim K mg io' (pls Fr a) G' H' ∧ Stp io M Fr H io' (Mu io' (pls Fr a)) H' ∧ Rc K mg io' (Mu io' (pls Fr a)) H' c o
def RvR (io : List Addr) (M : Addr → Prop) (σ : L2.St) (H : Hp) : RV → V → Prop
  | .val w, v => Rw K mg io M H w v
  | .hnd i, v => σ[i]? = some (some v)
  | .own _, _ => False
def Rn (io : List Addr) (M : Addr → Prop) (H : Hp) (w : W) (v : V) : Prop := Rw K mg io M H w v ∨ ∃ c o a, w = Cell.toW c ∧ v = .ref a ∧ H a = some o ∧ Rc K mg io M H c o
variable (ea : EA) (Wx : WX)
def RefE (t : TE) (m : Mo RV) : Prop := ∀ (σ : L2.St) (H : Hp) (io : List Addr) (Fr : Addr → Prop) (s : S), Sim K mg ea io Fr s σ H → ∀ r s', m s = some (r, s') → ∀ Q : VK,
  (∀ x, r = .ok x → ∀ v H' io', PostE K mg ea io Fr s σ H s' io' H' x v → Q v H') → (∀ x, r = .error x → ∀ cls d H' io', PostX K mg ea io Fr s σ H s' σ io' H' x cls d → Wx cls d σ H') → t σ H Q
def RefT (t : TT) (m : Mo Bool) : Prop := ∀ (σ : L2.St) (H : Hp) (io : List Addr) (Fr : Addr → Prop) (s : S), Sim K mg ea io Fr s σ H → ∀ r s', m s = some (r, s') → ∀ Q : Bool → Hp → Prop,
  (∀ b, r = .ok b → ∀ H' io', PostS K mg ea io Fr s σ H s' σ io' H' → Q b H') → (∀ x, r = .error x → ∀ cls d H' io', PostX K mg ea io Fr s σ H s' σ io' H' x cls d → Wx cls d σ H') → t σ H Q
def RefA (t : TA) (m : Mo (List RV)) : Prop := ∀ (σ : L2.St) (H : Hp) (io : List Addr) (Fr : Addr → Prop) (s : S), Sim K mg ea io Fr s σ H → ∀ r s', m s = some (r, s') → ∀ Q : List V → Hp → Prop,
  (∀ xs, r = .ok xs → ∀ vs H' io', PostS K mg ea io Fr s σ H s' σ io' H' → Paired (RvR K mg io' (Ms io' Fr s' σ) σ H') xs vs → Q vs H') → (∀ x, r = .error x → ∀ cls d H' io', PostX K mg ea io Fr s σ H s' σ io' H' x cls d → Wx cls d σ H') → t σ H Q
def RefS (t : TS) (m : Mo Fl) : Prop := ∀ (σ : L2.St) (H : Hp) (io : List Addr) (Fr : Addr → Prop) (s : S), Sim K mg ea io Fr s σ H → ∀ r s', m s = some (r, s') → ∀ D : Ends,
  (r = .ok .nx → ∀ σ' H' io', PostS K mg ea io Fr s σ H s' σ' io' H' → D.nx σ' H') → (r = .ok .bk → ∀ σ' H' io', PostS K mg ea io Fr s σ H s' σ' io' H' → D.bk σ' H') →
  (r = .ok .ct → ∀ σ' H' io', PostS K mg ea io Fr s σ H s' σ' io' H' → D.ct σ' H') → (∀ f, r = .ok (.rt f) → ∀ v H' io', PostF K mg io (Ms io Fr s σ) Fr H s'.G io' H' f v → D.rt v H') →
  (∀ x, r = .error x → ∀ cls d σ' H' io', PostX K mg ea io Fr s σ H s' σ' io' H' x cls d → Wx cls d σ' H') → t D σ H
end
structure Pee (X : Cx) (ea : EA) (Wx : WX) (e : Expr) (m : Mo RV) : Prop where
  ex : ∃ t, PE X e t ∧ RefE X.K X.mg ea Wx t m
structure Pet (X : Cx) (ea : EA) (Wx : WX) (e : Expr) (m : Mo Bool) : Prop where
  ex : ∃ t, PT X e t ∧ RefT X.K X.mg ea Wx t m
structure Pew (X : Cx) (ea : EA) (Wx : WX) (e : Expr) (m : Mo Bool) : Prop where
  ex : ∃ t, PW X e t ∧ RefT X.K X.mg ea Wx t m
structure Pea (X : Cx) (ea : EA) (Wx : WX) (es : List Expr) (m : Mo (List RV)) : Prop where
  ex : ∃ t, PA X es t ∧ RefA X.K X.mg ea Wx t m
structure Pes (X : Cx) (ea : EA) (Wx : WX) (st : Stmt) (m : Mo Fl) : Prop where
  ex : ∃ t, PS X st t ∧ RefS X.K X.mg ea Wx t m
structure Pess (X : Cx) (ea : EA) (Wx : WX) (st : List Stmt) (m : Mo Fl) : Prop where
  ex : ∃ t, PSs X st t ∧ RefS X.K X.mg ea Wx t m
section
variable {K : PySem.W.Frag} {mg : Str → Option Value} {ea : EA} {io io' : List Addr} {Fr Fr' : Addr → Prop} {s s' : S} {σ σ' : L2.St} {H H' : Hp} {w : W} {v : V} {c : Cell} {o : HO} {a : Addr}
theorem FrO.mono {r : List SV} (h : ∀ b, Fr' b → Fr b) : ∀ b, FrO Fr' r σ b → FrO Fr r σ b := fun b z => z.imp (h b) id
theorem Ms.mono (h : ∀ b, Fr' b → Fr b) : ∀ b, Ms io Fr' s σ b → Ms io Fr s σ b := fun b z => z.imp id (FrO.mono h b)
theorem pls.sub : ∀ b, Fr b → pls Fr a b := fun _ z => .inl z
theorem Ms.pls_sub : ∀ b, Ms io Fr s σ b → Ms io (pls Fr a) s σ b := Ms.mono pls.sub
theorem GSim.less (g : GSim K mg io Fr s.G H) (h : ∀ b, Fr' b → Fr b) : GSim K mg io Fr' s.G H where
  len := g.len
  cell := fun n a c h1 h2 => let ⟨o, e, q⟩ := g.cell n a c h1 h2; ⟨o, e, q.pers (.less fun b z => z.imp id (h b))⟩
  nd := g.nd
  dj := fun a ha z => g.dj a ha (h a z)
  fr := fun a z => g.fr a (h a z)
theorem Sim.less (x : Sim K mg ea io Fr s σ H) (h : ∀ b, Fr' b → Fr b) : Sim K mg ea io Fr' s σ H where
  len := x.len
  g := x.g.less (FrO.mono h)
  val := fun i w e => let ⟨v, q1, q2⟩ := x.val i w e; ⟨v, q1, q2.pers (.less (Ms.mono h))⟩
  own := fun i c e => let ⟨a, o, q1, q2, q3, q4⟩ := x.own i c e; ⟨a, o, q1, q2, q3.pers (.less (Ms.mono h)), fun z => q4 (h a z)⟩
  dist := x.dist
  exc := fun i e q => let ⟨h1, h2⟩ := x.exc i e q; ⟨h1, h2.pers (.less (Ms.mono h))⟩
theorem Stp.less {M M' M2 : Addr → Prop} (x : Stp io M Fr H io' M' H') (h : ∀ b, M2 b → M' b) : Stp io M Fr H io' M2 H' := ⟨⟨x.p.keep, fun a z => x.p.new a (h a z), x.p.ext⟩, x.fr, x.trk⟩
theorem Rn.of (h : Rw K mg io (Ms io Fr s σ) H w v) : Rn K mg io (Ms io Fr s σ) H w v := .inl h
@[simp] def settle : RV → RV
  | .own c => .val c.toW
  | x => x
theorem PostE.settled {x : RV} (h : PostE K mg ea io Fr s σ H s' io' H' x v) : Sim K mg ea io' Fr s' σ H' ∧ Stp io (Ms io Fr s σ) Fr H io' (Ms io' Fr s' σ) H' ∧ RvR K mg io' (Ms io' Fr s' σ) σ H' (settle x) v := by
  cases x with
  | val w => exact h
  | hnd i => exact h
  | own c =>
    obtain ⟨a, o, rfl, ha, hn, S, T, R⟩ := h
    refine ⟨S.less pls.sub, T.less Ms.pls_sub, ?_⟩
    have ni : a ∉ io' := fun z => S.g.dj a z (.inl (.inr rfl))
    exact (R.pers (.less Ms.pls_sub)).froze ha fun z => z.elim ni hn
def derefW (s : S) : W → Option W
  | .ref n => (s.G[n]?).map Cell.toW
  | w => some w
def look : RV → Mo W
  | .val w => fun s => (derefW s w).map fun z => (.ok z, s)
  | .own c => ret c.toW
  | .hnd i => fun s => match s.r[i]? with
    | some (.own c) => some (.ok c.toW, s)
    | some (.val w) => (derefW s w).map fun z => (.ok z, s)
    | _ => none
theorem deref_ok (S : Sim K mg ea io Fr s σ H) (h : Rw K mg io (Ms io Fr s σ) H w v) {z : W} (e : derefW s w = some z) : Rn K mg io (Ms io Fr s σ) H z v := by
  cases w with
  | ref n =>
    simp only [derefW, Option.map_eq_some_iff] at e
    obtain ⟨c, e1, rfl⟩ := e
    cases h with
    | ref h =>
      obtain ⟨o, ho, hc⟩ := S.g.cell n _ c h e1
      exact .inr ⟨c, o, _, rfl, rfl, ho, hc⟩
  | _ => simp only [derefW, Option.some.injEq] at e; subst e; exact .inl h
theorem look_ok (S : Sim K mg ea io Fr s σ H) {x : RV} (h : RvR K mg io (Ms io Fr s σ) σ H x v) {r : Except Ex W} (e : look x s = some (r, s')) : s' = s ∧ ∃ z, r = .ok z ∧ Rn K mg io (Ms io Fr s σ) H z v := by
  cases x with
  | own c => exact h.elim
  | val w =>
    simp only [look, Option.map_eq_some_iff] at e
    obtain ⟨z, e1, e2⟩ := e
    cases e2
    exact ⟨rfl, z, rfl, deref_ok S h e1⟩
  | hnd i =>
    have h' : σ[i]? = some (some v) := h
    simp only [look] at e
    split at e
    · rename_i c q
      cases e
      obtain ⟨a, o, h1, h2, h3, h4⟩ := S.own i c q
      rw [h'] at h1
      cases h1
      exact ⟨rfl, _, rfl, .inr ⟨c, o, a, rfl, rfl, h2, h3⟩⟩
    · rename_i w q
      simp only [Option.map_eq_some_iff] at e
      obtain ⟨z, e1, e2⟩ := e
      cases e2
      obtain ⟨u, h1, h2⟩ := S.val i w q
      rw [h'] at h1
      cases h1
      exact ⟨rfl, z, rfl, deref_ok S h2 e1⟩
    · cases e
def freeze : RV → Mo W
  | .val w => ret w
  | .own c => ret c.toW
  | .hnd i => fun s => match s.r[i]? with
    | some (.own c) => some (.ok c.toW, { s with r := s.r.set i (.val c.toW) })
    | some (.val w) => some (.ok w, s)
    | _ => none
theorem get_lt {α : Type} {l : List α} {i : Nat} {x : α} (h : l[i]? = some x) : i < l.length := by
  rcases Nat.lt_or_ge i l.length with q | q
  · exact q
  · rw [List.getElem?_eq_none_iff.mpr q] at h; cases h
theorem FrO.froze {r : List SV} {i : Nat} {w : W} : ∀ b, FrO Fr (r.set i (.val w)) σ b → FrO Fr r σ b := fun b z => z.imp id fun ⟨j, d, h1, h2⟩ => by
  by_cases e : i = j
  · subst e
    have := get_lt h1
    rw [List.getElem?_set_self (by simpa using this)] at h1
    cases h1
  · rw [List.getElem?_set_ne e] at h1
    exact ⟨j, d, h1, h2⟩
theorem Sim.freeze {i : Nat} (x : Sim K mg ea io Fr s σ H) (e : s.r[i]? = some (.own c)) : Sim K mg ea io Fr { s with r := s.r.set i (.val c.toW) } σ H ∧ ∀ v, σ[i]? = some (some v) → Rw K mg io (Ms io Fr { s with r := s.r.set i (.val c.toW) } σ) H c.toW v := by
  have hi := get_lt e
  obtain ⟨a, o, h1, h2, h3, h4⟩ := x.own i c e
  have le : ∀ b, Ms io Fr { s with r := s.r.set i (.val c.toW) } σ b → Ms io Fr s σ b := fun b z => z.imp id (FrO.froze b)
  have nm : ¬ Ms io Fr { s with r := s.r.set i (.val c.toW) } σ a := fun z => by
    rcases z with z | z | ⟨j, d, q1, q2⟩
    · exact x.g.dj a z (.inr ⟨i, c, e, h1⟩)
    · exact h4 z
    · by_cases ij : i = j
      · subst ij
        rw [List.getElem?_set_self hi] at q1
        cases q1
      · rw [List.getElem?_set_ne ij] at q1
        exact ij (x.dist i j c d a e q1 h1 q2)
  have fz : Rw K mg io (Ms io Fr { s with r := s.r.set i (.val c.toW) } σ) H c.toW (.ref a) := (h3.pers (.less le)).froze h2 nm
  refine ⟨⟨by simpa using x.len, x.g.less (s := s) (FrO.froze), fun j w q => ?_, fun j d q => ?_, fun j k d d' b q1 q2 => ?_, fun j y q => ?_⟩, fun v hv => ?_⟩
  · by_cases ij : i = j
    · subst ij
      rw [List.getElem?_set_self hi] at q
      cases q
      exact ⟨_, h1, fz⟩
    · rw [List.getElem?_set_ne ij] at q
      obtain ⟨v, q1, q2⟩ := x.val j w q
      exact ⟨v, q1, q2.pers (.less le)⟩
  · by_cases ij : i = j
    · subst ij
      rw [List.getElem?_set_self hi] at q
      cases q
    · rw [List.getElem?_set_ne ij] at q
      obtain ⟨b, p, q1, q2, q3, q4⟩ := x.own j d q
      exact ⟨b, p, q1, q2, q3.pers (.less le), q4⟩
  · by_cases ij : i = j
    · subst ij
      rw [List.getElem?_set_self hi] at q1
      cases q1
    · by_cases ik : i = k
      · subst ik
        rw [List.getElem?_set_self hi] at q2
        cases q2
      · rw [List.getElem?_set_ne ij] at q1
        rw [List.getElem?_set_ne ik] at q2
        exact x.dist j k d d' b q1 q2
  · by_cases ij : i = j
    · subst ij
      rw [List.getElem?_set_self hi] at q
      cases q
    · rw [List.getElem?_set_ne ij] at q
      obtain ⟨h1, h2⟩ := x.exc j y q
      exact ⟨h1, h2.pers (.less le)⟩
  · rw [h1] at hv
    cases hv
    exact fz
theorem freeze_ok (S : Sim K mg ea io Fr s σ H) {x : RV} (h : RvR K mg io (Ms io Fr s σ) σ H x v) {r : Except Ex W} (e : freeze x s = some (r, s')) : s'.G = s.G ∧ (∀ b, Ms io Fr s' σ b → Ms io Fr s σ b) ∧ Sim K mg ea io Fr s' σ H ∧ ∃ z, r = .ok z ∧ Rw K mg io (Ms io Fr s' σ) H z v := by
  cases x with
  | own c => exact h.elim
  | val w => cases e; exact ⟨rfl, fun _ z => z, S, w, rfl, h⟩
  | hnd i =>
    have h' : σ[i]? = some (some v) := h
    simp only [Z.freeze] at e
    split at e
    · rename_i c q
      cases e
      obtain ⟨S', f⟩ := S.freeze q
      exact ⟨rfl, fun b z => z.imp id (FrO.froze b), S', _, rfl, f v h'⟩
    · rename_i w q
      cases e
      obtain ⟨u, h1, h2⟩ := S.val i w q
      rw [h'] at h1
      cases h1
      exact ⟨rfl, fun _ z => z, S, w, rfl, h2⟩
    · cases e
theorem RvR.pers {x : RV} {M M' : Addr → Prop} (p : Pers io M H io' M' H') (h : RvR K mg io M σ H x v) : RvR K mg io' M' σ H' x v := by
  cases x with
  | own c => exact h
  | val w => exact Rw.pers p h
  | hnd i => exact h
end
end Z
set_option Elab.async false
set_option linter.all false
set_option maxRecDepth 100000
namespace Z
open PySem PySem.Spec PyProof.Rows L2
section
variable {K : PySem.W.Frag} {mg : Str → Option Value} {ea : EA} {io io' : List Addr} {Fr Fr' : Addr → Prop} {s s' s2 : S} {σ σ' : L2.St} {H H' : Hp} {w : W} {v : V} {c : Cell} {o : HO} {a p : Addr}
theorem Sim.trkN (x : Sim K mg ea io Fr s σ H) (h : Ms io Fr s σ a) : ∃ o, H a = some o ∧ Nt o := by
  rcases h with h | h
  · obtain ⟨n, hn⟩ := List.mem_iff_getElem?.mp h
    have hl := get_lt hn
    rw [x.g.len] at hl
    obtain ⟨o, e, r⟩ := x.g.cell n a s.G[n] hn (by simp [hl])
    exact ⟨o, e, r.nt⟩
  · exact x.g.fr a h
theorem Sim.trk (x : Sim K mg ea io Fr s σ H) (h : Ms io Fr s σ a) : ∃ o, H a = some o := let ⟨o, e, _⟩ := x.trkN h; ⟨o, e⟩
theorem Sim.move (x : Sim K mg ea io Fr s σ H) (q : Pers io (Ms io Fr s σ) H io (Ms io Fr' s σ) H') (same : ∀ a, Ms io Fr s σ a → H' a = H a)
    (dj : ∀ a, Fr' a → a ∉ io) (dj2 : ∀ a (i : Nat) c, Fr' a → s.r[i]? = some (.own c) → σ[i]? = some (some (V.ref a)) → False) (tr : ∀ a, Fr' a → ∃ o, H' a = some o ∧ Nt o) : Sim K mg ea io Fr' s σ H' where
  len := x.len
  g := ⟨x.g.len, fun n a c h1 h2 => by
      obtain ⟨o, e, r⟩ := x.g.cell n a c h1 h2
      exact ⟨o, by rw [same a (.inl (List.mem_of_getElem? h1))]; exact e, r.pers q⟩,
    x.g.nd, fun a ha z => by
      rcases z with z | z
      · exact dj a z ha
      · exact x.g.dj a ha (.inr z), fun a z => by
      rcases z with z | ⟨i, c, h1, h2⟩
      · exact tr a z
      · obtain ⟨b, o, q1, q2, q3, _⟩ := x.own i c h1
        rw [h2] at q1; cases q1
        exact ⟨o, by rw [same a (.inr (.inr ⟨i, c, h1, h2⟩))]; exact q2, q3.nt⟩⟩
  val := fun i w e => let ⟨v, q1, q2⟩ := x.val i w e; ⟨v, q1, q2.pers q⟩
  own := fun i c e => by
    obtain ⟨a, o, q1, q2, q3, _⟩ := x.own i c e
    exact ⟨a, o, q1, by rw [same a (.inr (.inr ⟨i, c, e, q1⟩))]; exact q2, q3.pers q, fun z => dj2 a i c z e q1⟩
  dist := x.dist
  exc := fun i e k => let ⟨h1, h2⟩ := x.exc i e k; ⟨h1, h2.pers q⟩
theorem Sim.laid (x : Sim K mg ea io Fr s σ H) (hp : H p = none) : Sim K mg ea io Fr s σ (upd H p o) ∧ Stp io (Ms io Fr s σ) Fr H io (Ms io Fr s σ) (upd H p o) := by
  have ne : ∀ b u, H b = some u → upd H p o b = some u := fun b u e => by rw [upd_ne (ne_of_none e hp)]; exact e
  have same : ∀ b, Ms io Fr s σ b → upd H p o b = H b := fun b z => by
    obtain ⟨u, e⟩ := x.trk z
    rw [ne b u e, e]
  have q : Pers io (Ms io Fr s σ) H io (Ms io Fr s σ) (upd H p o) := ⟨fun b u e _ => ne b u e, fun b z => .inl z, fun _ _ e => e⟩
  refine ⟨x.move q same (fun b z h => x.g.dj b h (.inl z)) (fun b i c z h1 h2 => ?_) (fun b z => ?_), q, fun b z => same b (.inr (.inl z)), fun b u e => ⟨u, ne b u e⟩⟩
  · obtain ⟨a', o', q1, _, _, q4⟩ := x.own i c h1
    rw [h2] at q1; cases q1
    exact q4 z
  · obtain ⟨u, e, n⟩ := x.trkN (a := b) (.inr (.inl z))
    exact ⟨u, ne b u e, n⟩
theorem Sim.alloc (x : Sim K mg ea io Fr s σ H) (hp : H p = none) (hN : Nt o := by intro _ z; cases z) : Sim K mg ea io (pls Fr p) s σ (upd H p o) ∧ Stp io (Ms io Fr s σ) Fr H io (Ms io (pls Fr p) s σ) (upd H p o) ∧ ¬ FrO Fr s.r σ p := by
  have ne : ∀ b u, H b = some u → upd H p o b = some u := fun b u e => by rw [upd_ne (ne_of_none e hp)]; exact e
  have same : ∀ b, Ms io Fr s σ b → upd H p o b = H b := fun b z => by
    obtain ⟨u, e⟩ := x.trk z
    rw [ne b u e, e]
  have nM : ¬ Ms io Fr s σ p := fun z => by
    obtain ⟨u, e⟩ := x.trk z
    rw [hp] at e; cases e
  have q : Pers io (Ms io Fr s σ) H io (Ms io (pls Fr p) s σ) (upd H p o) := ⟨fun b u e _ => ne b u e, fun b z => by
    rcases z with z | (z | z) | z
    · exact .inl (.inl z)
    · exact .inl (.inr (.inl z))
    · exact .inr (by rw [z]; exact hp)
    · exact .inl (.inr (.inr z)), fun _ _ e => e⟩
  refine ⟨x.move q same (fun b z h => ?_) (fun b i c z h1 h2 => ?_) (fun b z => ?_), ⟨q, fun b z => same b (.inr (.inl z)), fun b u e => ⟨u, ne b u e⟩⟩, fun z => nM (.inr z)⟩
  · rcases z with z | z
    · exact x.g.dj b h (.inl z)
    · exact nM (.inl (z ▸ h))
  · obtain ⟨a', o', q1, _, _, q4⟩ := x.own i c h1
    rw [h2] at q1; cases q1
    rcases z with z | z
    · exact q4 z
    · exact nM (.inr (.inr ⟨i, c, h1, z ▸ h2⟩))
  · rcases z with z | z
    · obtain ⟨u, e, n⟩ := x.trkN (a := b) (.inr (.inl z))
      exact ⟨u, ne b u e, n⟩
    · exact ⟨o, by rw [z, upd_same], hN⟩
theorem Stp.frless {M M' : Addr → Prop} (x : Stp io M Fr H io' M' H') (h : ∀ b, Fr' b → Fr b) : Stp io M Fr' H io' M' H' := ⟨x.p, fun a z => x.fr a (h a z), x.trk⟩
theorem Sim.call {G' : List Cell} (x : Sim K mg ea io Fr s σ H) (g : GSim K mg io' (FrO Fr' s.r σ) G' H') (T : Stp io (Ms io Fr s σ) (FrO Fr s.r σ) H io' (Mu io' (FrO Fr' s.r σ)) H')
    (n : ∀ a (i : Nat) c, s.r[i]? = some (.own c) → σ[i]? = some (some (V.ref a)) → ¬ Fr' a) : Sim K mg ea io' Fr' { s with G := G' } σ H' where
  len := x.len
  g := g
  val := fun i w e => let ⟨v, q1, q2⟩ := x.val i w e; ⟨v, q1, q2.pers T.p⟩
  own := fun i c e => by
    obtain ⟨a, o, q1, q2, q3, _⟩ := x.own i c e
    exact ⟨a, o, q1, by rw [T.fr a (.inr ⟨i, c, e, q1⟩)]; exact q2, q3.pers T.p, n a i c e q1⟩
  dist := x.dist
  exc := fun i e k => let ⟨h1, h2⟩ := x.exc i e k; ⟨h1, h2.pers T.p⟩
inductive OR where
  | imm (w : W)
  | newl (ws : List W)
  | newt (ws : List W)
@[simp] def OR.toRV : OR → RV
  | .imm w => .val w
  | .newl ws => .own (.lst ws)
  | .newt ws => .val (.tup ws)
def OQ (K : PySem.W.Frag) (mg : Str → Option Value) (io : List Addr) (M : Addr → Prop) (H : Hp) (z : OR) (Q : VK) : Prop := match z with
  | .imm w => ∀ v, Rw K mg io M H w v → Q v H
  | .newl ws => ∀ p vs, H p = none → Rws K mg io M H ws vs → Q (.ref p) (upd H p (.lst vs))
  | .newt ws => ∀ p vs, H p = none → Rws K mg io M H ws vs → Q (.ref p) (upd H p (.tup vs))
theorem OQ.post {z : OR} (x : Sim K mg ea io' Fr s2 σ H') (T : Stp io (Ms io Fr s σ) Fr H io' (Ms io' Fr s2 σ) H') {Q : VK}
    (hok : ∀ v H2 io2, PostE K mg ea io Fr s σ H s2 io2 H2 z.toRV v → Q v H2) : OQ K mg io' (Ms io' Fr s2 σ) H' z Q := by
  cases z with
  | imm w => exact fun v r => hok v _ _ ⟨x, T, r⟩
  | newl ws =>
    intro p vs hp r
    obtain ⟨S, T2, nf⟩ := x.alloc (o := .lst vs) hp
    exact hok _ _ _ ⟨p, .lst vs, rfl, upd_same, nf, S, T.trans T2, vs, rfl, r.pers T2.p⟩
  | newt ws =>
    intro p vs hp r
    obtain ⟨S, T2⟩ := x.laid (o := .tup vs) hp
    have r' := r.pers T2.p
    refine hok _ _ _ ⟨S, T.trans T2, .tup (.inl ⟨upd_same, fun z => ?_⟩) r'.1 r'.2⟩
    obtain ⟨u, e⟩ := x.trk z
    rw [hp] at e; cases e
def OpM (X : Cx) (g : Value → Value → Sem Value) (f : W → W → Option OR) : Prop :=
  ∃ r : R2, OpR X g r ∧ ∀ io M H x y vx vy z Q, Rn X.K X.mg io M H x vx → Rn X.K X.mg io M H y vy → f x y = some z → OQ X.K X.mg io M H z Q → r vx vy H Q
def UnM (X : Cx) (g : Value → Sem Value) (f : W → Option OR) : Prop :=
  ∃ r : V → Hp → VK → Prop, UnR X g r ∧ ∀ io M H x vx z Q, Rn X.K X.mg io M H x vx → f x = some z → OQ X.K X.mg io M H z Q → r vx H Q
def orf {α β γ : Type} (f g : α → β → Option γ) : α → β → Option γ := fun x y => match f x y with
  | some z => some z
  | none => g x y
theorem OpM.or {X : Cx} {g : Value → Value → Sem Value} {f f' : W → W → Option OR} (h : OpM X g f) (h' : OpM X g f') : OpM X g (orf f f') := by
  obtain ⟨r, a, b⟩ := h
  obtain ⟨r', a', b'⟩ := h'
  refine ⟨_, a.or a', fun io M H x y vx vy z Q rx ry e q => ?_⟩
  unfold orf at e
  cases k : f x y with
  | some z' =>
    rw [k] at e
    cases e
    exact .inl (b io M H x y vx vy z Q rx ry k q)
  | none =>
    rw [k] at e
    exact .inr (b' io M H x y vx vy z Q rx ry e q)
def liftO (z : Option OR) : Mo RV := match z with
  | some z => ret z.toRV
  | none => stk
def opM (f : W → W → Option OR) (x y : RV) : Mo RV := bnd (look x) fun wx => bnd (look y) fun wy => liftO (f wx wy)
def mBin (f : W → W → Option OR) (ma mb : Mo RV) : Mo RV := bnd ma fun x => bnd mb fun y => opM f (settle x) (settle y)
def mUn (f : W → Option OR) (ma : Mo RV) : Mo RV := bnd ma fun x => bnd (look (settle x)) fun wx => liftO (f wx)
theorem liftO_some {z : Option OR} {r : Except Ex RV} (h : liftO z s = some (r, s')) : s' = s ∧ ∃ u, z = some u ∧ r = .ok u.toRV := by
  cases z with
  | none => cases h
  | some u => cases h; exact ⟨rfl, u, rfl, rfl⟩
section
variable {Wx : WX} {ta tb tc : TE} {ma mb mc : Mo RV}
theorem bin2 (ha : RefE K mg ea Wx ta ma) (hb : RefE K mg ea Wx tb mb) (S0 : Sim K mg ea io Fr s σ H) {α : Type} {f : RV → RV → Mo α} {r : Except Ex α}
    (e : bnd ma (fun x => bnd mb fun y => f (settle x) (settle y)) s = some (r, s'))
    (hex : ∀ x, r = .error x → ∀ cls d H' io', PostX K mg ea io Fr s σ H s' σ io' H' x cls d → Wx cls d σ H')
    {R : V → V → Hp → Prop} (hR : ∀ x y s2 vx vy H2 io2, f x y s2 = some (r, s') → Sim K mg ea io2 Fr s2 σ H2 → Stp io (Ms io Fr s σ) Fr H io2 (Ms io2 Fr s2 σ) H2 →
      RvR K mg io2 (Ms io2 Fr s2 σ) σ H2 x vx → RvR K mg io2 (Ms io2 Fr s2 σ) σ H2 y vy → R vx vy H2) : ta σ H fun x H1 => tb σ H1 fun y H2 => R x y H2 := by
  rcases bnd_some e with ⟨x, e1, rfl⟩ | ⟨x, s1, e1, e2⟩
  · exact ha σ H io Fr s S0 _ _ e1 _ (fun _ q => by cases q) fun x' q cls d H' io' px => by
      cases q
      exact hex _ rfl cls d H' io' px
  · refine ha σ H io Fr s S0 _ _ e1 _ (fun x' q vx H1 io1 px => ?_) (fun _ q => by cases q)
    cases q
    obtain ⟨S1, T1, R1⟩ := px.settled
    rcases bnd_some e2 with ⟨y, e3, rfl⟩ | ⟨y, s2, e3, e4⟩
    · exact hb σ H1 io1 Fr s1 S1 _ _ e3 _ (fun _ q => by cases q) fun x' q cls d H' io' py => by
        cases q
        exact hex _ rfl cls d H' io' ⟨py.1, T1.trans py.2.1, py.2.2⟩
    · refine hb σ H1 io1 Fr s1 S1 _ _ e3 _ (fun y' q vy H2 io2 py => ?_) (fun _ q => by cases q)
      cases q
      obtain ⟨S2, T2, R2⟩ := py.settled
      exact hR _ _ s2 vx vy H2 io2 e4 S2 (T1.trans T2) (R1.pers T2.p) R2
theorem ref_op {X : Cx} {g : Value → Value → Sem Value} {f : W → W → Option OR} {r : R2} (hr : ∀ io M H x y vx vy z Q, Rn K mg io M H x vx → Rn K mg io M H y vy → f x y = some z → OQ K mg io M H z Q → r vx vy H Q)
    (ha : RefE K mg ea Wx ta ma) (hb : RefE K mg ea Wx tb mb) : RefE K mg ea Wx (tOp r ta tb) (mBin f ma mb) := by
  intro σ H io Fr s S0 r0 s' e Q hok hex
  refine bin2 ha hb S0 e hex fun x y s2 vx vy H2 io2 e4 S2 T2 rx ry => ?_
  rcases bnd_some e4 with ⟨z, e5, rfl⟩ | ⟨wx, s3, e5, e6⟩
  · obtain ⟨_, _, q, _⟩ := look_ok S2 rx e5
    cases q
  · obtain ⟨rfl, wx', q, nx⟩ := look_ok S2 rx e5
    cases q
    rcases bnd_some e6 with ⟨z, e7, rfl⟩ | ⟨wy, s4, e7, e8⟩
    · obtain ⟨_, _, q, _⟩ := look_ok S2 ry e7
      cases q
    · obtain ⟨rfl, wy', q, ny⟩ := look_ok S2 ry e7
      cases q
      obtain ⟨rfl, u, hu, rfl⟩ := liftO_some e8
      exact hr _ _ _ _ _ _ _ _ _ nx ny hu (OQ.post S2 T2 fun v H3 io3 px => hok _ rfl v H3 io3 px)
theorem ref_un {f : W → Option OR} {r : V → Hp → VK → Prop} (hr : ∀ io M H x vx z Q, Rn K mg io M H x vx → f x = some z → OQ K mg io M H z Q → r vx H Q)
    (ha : RefE K mg ea Wx ta ma) : RefE K mg ea Wx (tUn r ta) (mUn f ma) := by
  intro σ H io Fr s S0 r0 s' e Q hok hex
  rcases bnd_some e with ⟨x, e1, rfl⟩ | ⟨x, s1, e1, e2⟩
  · exact ha σ H io Fr s S0 _ _ e1 _ (fun _ q => by cases q) fun x' q cls d H' io' px => by
      cases q
      exact hex _ rfl cls d H' io' px
  · refine ha σ H io Fr s S0 _ _ e1 _ (fun x' q vx H1 io1 px => ?_) (fun _ q => by cases q)
    cases q
    obtain ⟨S1, T1, R1⟩ := px.settled
    rcases bnd_some e2 with ⟨z, e5, rfl⟩ | ⟨wx, s3, e5, e6⟩
    · obtain ⟨_, _, q, _⟩ := look_ok S1 R1 e5
      cases q
    · obtain ⟨rfl, wx', q, nx⟩ := look_ok S1 R1 e5
      cases q
      obtain ⟨rfl, u, hu, rfl⟩ := liftO_some e6
      exact hr _ _ _ _ _ _ _ nx hu (OQ.post S1 T1 fun v H3 io3 px => hok _ rfl v H3 io3 px)
end
def mName (i : Nat) : Mo RV := fun s => match s.r[i]? with
  | some (.val w) => some (.ok (.val w), s)
  | some (.own _) => some (.ok (.hnd i), s)
  | _ => none
def mC (w : W) : Mo RV := ret (.val w)
variable {Wx : WX}
theorem ref_name (i : Nat) : RefE K mg ea Wx (tVar i) (mName i) := by
  intro σ H io Fr s S0 r0 s' e Q hok hex
  unfold mName at e
  split at e
  · rename_i w q
    cases e
    obtain ⟨v, q1, q2⟩ := S0.val i w q
    exact ⟨v, q1, hok _ rfl v H io ⟨S0, .refl, q2⟩⟩
  · rename_i c q
    cases e
    obtain ⟨a, o, q1, _⟩ := S0.own i c q
    exact ⟨_, q1, hok _ rfl _ H io ⟨S0, .refl, q1⟩⟩
  · cases e
theorem ref_c {w : W} {v : V} (h : ∀ io M H, Rw K mg io M H w v) : RefE K mg ea Wx (tC v) (mC w) := by
  intro σ H io Fr s S0 r0 s' e Q hok hex
  cases e
  exact hok _ rfl v H io ⟨S0, .refl, h _ _ _⟩
def toB : RV → Mo Bool
  | .val (.bl b) => ret b
  | _ => stk
def mB (m : Mo RV) : Mo Bool := bnd m toB
theorem toB_some {x : RV} {r : Except Ex Bool} (h : toB x s = some (r, s')) : s' = s ∧ ∃ b, x = .val (.bl b) ∧ r = .ok b := by
  unfold toB at h
  split at h
  · rename_i b
    cases h; exact ⟨rfl, b, rfl, rfl⟩
  · cases h
theorem ref_test {t : TE} {m : Mo RV} (h : RefE K mg ea Wx t m) : RefT K mg ea Wx (tTest t) (mB m) := by
  intro σ H io Fr s S0 r0 s' e Q hok hex
  rcases bnd_some e with ⟨x, e1, rfl⟩ | ⟨x, s1, e1, e2⟩
  · exact h σ H io Fr s S0 _ _ e1 _ (fun _ q => by cases q) fun x' q cls d H' io' px => by
      cases q
      exact hex _ rfl cls d H' io' px
  · refine h σ H io Fr s S0 _ _ e1 _ (fun x' q vx H1 io1 px => ?_) (fun _ q => by cases q)
    cases q
    obtain ⟨rfl, b, rfl, rfl⟩ := toB_some e2
    obtain ⟨S1, T1, R1⟩ := px
    cases R1
    exact ⟨b, rfl, hok _ rfl H1 io1 ⟨S1, T1⟩⟩
def mAnd (a b : Mo Bool) : Mo Bool := bnd a fun x => if x = true then b else ret false
def mOr (a b : Mo Bool) : Mo Bool := bnd a fun x => if x = true then ret true else b
def mNot (a : Mo Bool) : Mo Bool := bnd a fun x => ret (!x)
variable {ta tb : TT} {ma mb : Mo Bool}
theorem tst2 {α : Type} (ha : RefT K mg ea Wx ta ma) (S0 : Sim K mg ea io Fr s σ H) {f : Bool → Mo α} {r : Except Ex α} (e : bnd ma f s = some (r, s'))
    (hex : ∀ x, r = .error x → ∀ cls d H' io', PostX K mg ea io Fr s σ H s' σ io' H' x cls d → Wx cls d σ H')
    {R : Bool → Hp → Prop} (hR : ∀ b s1 H1 io1, f b s1 = some (r, s') → PostS K mg ea io Fr s σ H s1 σ io1 H1 → R b H1) : ta σ H R := by
  rcases bnd_some e with ⟨x, e1, rfl⟩ | ⟨b, s1, e1, e2⟩
  · exact ha σ H io Fr s S0 _ _ e1 _ (fun _ q => by cases q) fun x' q cls d H' io' px => by
      cases q
      exact hex _ rfl cls d H' io' px
  · refine ha σ H io Fr s S0 _ _ e1 _ (fun x' q H1 io1 px => ?_) (fun _ q => by cases q)
    cases q
    exact hR b s1 H1 io1 e2 px
theorem ref_and (ha : RefT K mg ea Wx ta ma) (hb : RefT K mg ea Wx tb mb) : RefT K mg ea Wx (tAnd ta tb) (mAnd ma mb) := by
  intro σ H io Fr s S0 r0 s' e Q hok hex
  refine tst2 ha S0 e hex fun b s1 H1 io1 e2 px => ?_
  cases b with
  | true => exact hb σ H1 io1 Fr s1 px.1 _ _ e2 _ (fun x q H2 io2 py => hok x q H2 io2 ⟨py.1, px.2.trans py.2⟩) fun x q cls d H2 io2 py => hex x q cls d H2 io2 ⟨py.1, px.2.trans py.2.1, py.2.2⟩
  | false => cases e2; exact hok _ rfl H1 io1 px
theorem ref_or (ha : RefT K mg ea Wx ta ma) (hb : RefT K mg ea Wx tb mb) : RefT K mg ea Wx (tOr ta tb) (mOr ma mb) := by
  intro σ H io Fr s S0 r0 s' e Q hok hex
  refine tst2 ha S0 e hex fun b s1 H1 io1 e2 px => ?_
  cases b with
  | false => exact hb σ H1 io1 Fr s1 px.1 _ _ e2 _ (fun x q H2 io2 py => hok x q H2 io2 ⟨py.1, px.2.trans py.2⟩) fun x q cls d H2 io2 py => hex x q cls d H2 io2 ⟨py.1, px.2.trans py.2.1, py.2.2⟩
  | true => cases e2; exact hok _ rfl H1 io1 px
theorem ref_not (ha : RefT K mg ea Wx ta ma) : RefT K mg ea Wx (tNot ta) (mNot ma) := by
  intro σ H io Fr s S0 r0 s' e Q hok hex
  refine tst2 ha S0 e hex fun b s1 H1 io1 e2 px => ?_
  cases e2
  exact hok _ rfl H1 io1 px
end
section
variable {X : Cx} {ea : EA} {Wx : WX} {a b c : Expr} {ma mb mc : Mo RV} {pos : Pos}
theorem pee_name (i : Nat) {x : Str} {pos : Pos} (hN : X.N[i]? = some x := by rfl) (hv : Vis X.env.scope x := by first | exact Or.inl rfl | exact Or.inr (Or.inl rfl) | exact Or.inr (Or.inr rfl)) (hd : (x == ("__debug__" : Str)) = false := by decide)
    (hcd : (x == ("__classdict__" : Str)) = false := by decide) : Pee X ea Wx (.Name x pos) (mName i) := ⟨_, pe_var hN hv hd hcd, ref_name i⟩
theorem pee_int {i j pos} : Pee X ea Wx (.Constant (.int i) j pos) (mC (.int i)) := ⟨_, pe_int, ref_c fun _ _ _ => .int i⟩
theorem pee_bl {b j pos} : Pee X ea Wx (.Constant (.bool b) j pos) (mC (.bl b)) := ⟨_, pe_bl, ref_c fun _ _ _ => .bl b⟩
theorem pee_non {j pos} : Pee X ea Wx (.Constant .none j pos) (mC .non) := ⟨_, pe_non, ref_c fun _ _ _ => .non⟩
theorem pee_str {x j pos} : Pee X ea Wx (.Constant (.str x) j pos) (mC (.str x)) := ⟨_, pe_str, ref_c fun _ _ _ => .str x⟩
theorem pee_op {op : Operator} {f : W → W → Option OR} (ho : OpM X (binaryOp op) f) (ha : Pee X ea Wx a ma) (hb : Pee X ea Wx b mb) : Pee X ea Wx (.BinOp a op b pos) (mBin f ma mb) := by
  obtain ⟨ta, pa, ra⟩ := ha.ex
  obtain ⟨tb, pb, rb⟩ := hb.ex
  obtain ⟨r, h1, h2⟩ := ho
  exact ⟨_, pe_op h1 pa pb, ref_op (X := X) (g := binaryOp op) h2 ra rb⟩
theorem pee_un {op : UnaryOp} {f : W → Option OR} (ho : UnM X (unaryOp op) f) (ha : Pee X ea Wx a ma) : Pee X ea Wx (.UnaryOp op a pos) (mUn f ma) := by
  obtain ⟨ta, pa, ra⟩ := ha.ex
  obtain ⟨r, h1, h2⟩ := ho
  exact ⟨_, pe_un h1 pa, ref_un h2 ra⟩
theorem pee_cmp {op : CmpOp} {f : W → W → Option OR} (ho : OpM X (compareOp op) f) (ha : Pee X ea Wx a ma) (hb : Pee X ea Wx b mb) (hm : behindInMarks op b = false := by first | exact nomark _ | with_unfolding_all rfl) : Pee X ea Wx (.Compare a [op] [b] pos) (mBin f ma mb) := by
  obtain ⟨ta, pa, ra⟩ := ha.ex
  obtain ⟨tb, pb, rb⟩ := hb.ex
  obtain ⟨r, h1, h2⟩ := ho
  exact ⟨_, pe_cmpR h1 pa pb hm, ref_op (X := X) (g := compareOp op) h2 ra rb⟩
theorem pet_cmp {op : CmpOp} {f : W → W → Option OR} (ho : OpM X (compareOp op) f) (ha : Pee X ea Wx a ma) (hb : Pee X ea Wx b mb) (hm : behindInMarks op b = false := by first | exact nomark _ | with_unfolding_all rfl) : Pet X ea Wx (.Compare a [op] [b] pos) (mB (mBin f ma mb)) := by
  obtain ⟨ta, pa, ra⟩ := ha.ex
  obtain ⟨tb, pb, rb⟩ := hb.ex
  obtain ⟨r, h1, h2⟩ := ho
  exact ⟨_, pt_cmpR h1 pa pb hm, ref_test (ref_op (X := X) (g := compareOp op) h2 ra rb)⟩
theorem pet_val {e : Expr} {m : Mo RV} (h : Pee X ea Wx e m) (he : ∀ whole, isTrue e X.env whole = (do let v ← whole; standAt e.pos; holding [v] (truthy v)) := by intro _; rfl) : Pet X ea Wx e (mB m) := by
  obtain ⟨t, p, r⟩ := h.ex
  exact ⟨_, pt_val p he, ref_test r⟩
variable {tma tmb : Mo Bool} {rest : List Expr}
theorem pew_and1 (ha : Pet X ea Wx a tma) : Pew X ea Wx (.BoolOp .And [a] pos) tma := let ⟨_, p, r⟩ := ha.ex; ⟨_, pw_and1 p, r⟩
theorem pew_or1 (ha : Pet X ea Wx a tma) : Pew X ea Wx (.BoolOp .Or [a] pos) tma := let ⟨_, p, r⟩ := ha.ex; ⟨_, pw_or1 p, r⟩
theorem pew_and (ha : Pet X ea Wx a tma) (hb : Pew X ea Wx (.BoolOp .And (b :: rest) pos) tmb) : Pew X ea Wx (.BoolOp .And (a :: b :: rest) pos) (mAnd tma tmb) :=
  let ⟨_, p, r⟩ := ha.ex; let ⟨_, p', r'⟩ := hb.ex; ⟨_, pw_and p p', ref_and r r'⟩
theorem pew_or (ha : Pet X ea Wx a tma) (hb : Pew X ea Wx (.BoolOp .Or (b :: rest) pos) tmb) : Pew X ea Wx (.BoolOp .Or (a :: b :: rest) pos) (mOr tma tmb) :=
  let ⟨_, p, r⟩ := ha.ex; let ⟨_, p', r'⟩ := hb.ex; ⟨_, pw_or p p', ref_or r r'⟩
theorem Pew.pt {e : Expr} {m : Mo Bool} (h : Pew X ea Wx e m) : Pet X ea Wx e m := let ⟨_, p, r⟩ := h.ex; ⟨_, p.pt, r⟩
theorem pet_not (ha : Pet X ea Wx a tma) : Pet X ea Wx (.UnaryOp .Not a pos) (mNot tma) := let ⟨_, p, r⟩ := ha.ex; ⟨_, pt_not p, ref_not r⟩
end
end Z
set_option Elab.async false
set_option linter.all false
set_option maxRecDepth 100000
namespace Z
open PySem PySem.Spec PyProof.Rows L2
section
variable {K : PySem.W.Frag} {mg : Str → Option Value} {io : List Addr} {M : Addr → Prop} {H : Hp} {w : W} {v : V} {ws : List W}
theorem Rn.int {i : Int} (h : Rn K mg io M H (.int i) v) : v = .int i := by
  rcases h with h | ⟨c, o, a, e, _⟩
  · cases h; rfl
  · cases c <;> cases e
theorem Rn.bl {i : Bool} (h : Rn K mg io M H (.bl i) v) : v = .bl i := by
  rcases h with h | ⟨c, o, a, e, _⟩
  · cases h; rfl
  · cases c <;> cases e
theorem Rn.str {i : Str} (h : Rn K mg io M H (.str i) v) : v = .str i := by
  rcases h with h | ⟨c, o, a, e, _⟩
  · cases h; rfl
  · cases c <;> cases e
theorem Rn.byt {i : Array UInt8} (h : Rn K mg io M H (.byt i) v) : v = .byt i := by
  rcases h with h | ⟨c, o, a, e, _⟩
  · cases h; rfl
  · cases c <;> cases e
theorem Rn.non (h : Rn K mg io M H .non v) : v = .non := by
  rcases h with h | ⟨c, o, a, e, _⟩
  · cases h; rfl
  · cases c <;> cases e
theorem Rn.lst (h : Rn K mg io M H (.lst ws) v) : ∃ a vs, v = .ref a ∧ H a = some (.lst vs) ∧ Rws K mg io M H ws vs := by
  rcases h with h | ⟨c, o, a, e, rfl, ha, hc⟩
  · cases h with
    | lst h n l q => exact ⟨_, _, rfl, h, l, q⟩
  · cases c <;> cases e
    obtain ⟨vs, rfl, r⟩ := hc
    exact ⟨a, vs, rfl, ha, r⟩
theorem Rn.tup (h : Rn K mg io M H (.tup ws) v) : ∃ a vs, v = .ref a ∧ SqT K H a vs ∧ Rws K mg io M H ws vs := by
  rcases h with h | ⟨c, o, a, e, rfl, ha, hc⟩
  · cases h with
    | tup h l q => exact ⟨_, _, rfl, h.elim (fun z => SqT.of z.1) fun z => .inr z.1, l, q⟩
  · cases c <;> cases e
theorem Rn.tupRw (h : Rn K mg io M H (.tup ws) v) : Rw K mg io M H (.tup ws) v := by
  rcases h with h | ⟨c, o, a, e, rfl, ha, hc⟩
  · exact h
  · cases c <;> cases e
theorem Rn.tup1 (h : Rn K mg io M H (.tup (w :: ws)) v) : ∃ a vs, v = .ref a ∧ H a = some (.tup vs) ∧ Rws K mg io M H (w :: ws) vs := by
  rcases h with h | ⟨c, o, a, e, rfl, ha, hc⟩
  · cases h with
    | tup h l q =>
      rcases h with h | ⟨_, rfl⟩
      · exact ⟨_, _, rfl, h.1, l, q⟩
      · simp at l
  · cases c <;> cases e
theorem Rn.frl (h : Rn K mg io M H (.frl ws) v) : ∃ a vs, v = .ref a ∧ SqL K H a vs ∧ Rws K mg io M H ws vs := by
  rcases h with h | ⟨c, o, a, e, rfl, ha, hc⟩
  · cases h with
    | frl h l q => exact ⟨_, _, rfl, h.imp (fun z => z.1) id, l, q⟩
  · cases c <;> cases e
theorem Rn.dK {kvs : List (Key × W)} (h : Rn K mg io M H (.dK kvs) v) : ∃ a vs, v = .ref a ∧ Rd H a (.dK vs) ∧ Rkv K mg io M H kvs vs := by
  rcases h with h | ⟨c, o, a, e, rfl, ha, hc⟩
  · cases h with
    | dK h n l q => exact ⟨_, _, rfl, h, l, by simpa using congrArg List.length l, q⟩
  · cases c <;> cases e
    obtain ⟨vs, rfl, r⟩ := hc
    exact ⟨a, vs, rfl, .inl ha, r⟩
theorem Rn.dT {kvs : List (List Key × W)} (h : Rn K mg io M H (.dT kvs) v) : ∃ a vs, v = .ref a ∧ Rd H a (.dT vs) ∧ Rkv K mg io M H kvs vs := by
  rcases h with h | ⟨c, o, a, e, rfl, ha, hc⟩
  · cases h with
    | dT h n l q => exact ⟨_, _, rfl, h, l, by simpa using congrArg List.length l, q⟩
  · cases c <;> cases e
    obtain ⟨vs, rfl, r⟩ := hc
    exact ⟨a, vs, rfl, .inl ha, r⟩
theorem Rn.dF {kvs : List (List Key × W)} (h : Rn K mg io M H (.dF kvs) v) : ∃ a ob vs, v = .ref a ∧ H a = some (.frz ob (.dT vs)) ∧ ¬ M a ∧ Rkv K mg io M H kvs vs := by
  rcases h with h | ⟨c, o, a, e, rfl, ha, hc⟩
  · cases h with
    | dF h n l q => exact ⟨_, _, _, rfl, h, n, l, by simpa using congrArg List.length l, q⟩
  · cases c <;> cases e
theorem Rn.obj {nm : Str} {fs : List (Str × W)} (h : Rn K mg io M H (.obj nm fs) v) : ∃ a C dx vs, v = .ref a ∧ mg nm = some (.ref C) ∧ H a = some (.ins C dx vs) ∧ Rkv K mg io M H fs vs := by
  rcases h with h | ⟨c, o, a, e, rfl, ha, hc⟩
  · cases h with
    | obj m h n l q => exact ⟨_, _, _, _, rfl, m, h, l, by simpa using congrArg List.length l, q⟩
  · cases c <;> cases e
    obtain ⟨C, dx, vs, rfl, m, r⟩ := hc
    exact ⟨a, C, dx, vs, rfl, m, ha, r⟩
theorem Rn.seq {v : V} (h : Rn K mg io M H w v) (e : w = .lst ws ∨ w = .frl ws ∨ w = .tup ws) : ∃ a vs, v = .ref a ∧ (SqL K H a vs ∨ SqT K H a vs) ∧ Rws K mg io M H ws vs := by
  rcases e with rfl | rfl | rfl
  · obtain ⟨a, vs, e, q, r⟩ := h.lst; exact ⟨a, vs, e, .inl (.inl (.inl q)), r⟩
  · obtain ⟨a, vs, e, q, r⟩ := h.frl; exact ⟨a, vs, e, .inl q, r⟩
  · obtain ⟨a, vs, e, q, r⟩ := h.tup; exact ⟨a, vs, e, .inr q, r⟩
def seqOf : W → Option (List W)
  | .lst ws => some ws
  | .frl ws => some ws
  | .tup ws => some ws
  | _ => none
theorem seqOf_some (e : seqOf w = some ws) : w = .lst ws ∨ w = .frl ws ∨ w = .tup ws := by
  cases w <;> simp [seqOf] at e <;> subst e <;> simp
mutual
def toPD : W → Option PyData
  | .non => some .none
  | .bl b => some (.bool b)
  | .int i => some (.int i)
  | .str x => some (.str x)
  | .lst ws => (toPDs ws).map .list
  | .frl ws => (toPDs ws).map .list
  | .tup ws => (toPDs ws).map .tuple
  | _ => none
def toPDs : List W → Option (List PyData)
  | [] => some []
  | w :: ws => match toPD w, toPDs ws with
    | some d, some ds => some (d :: ds)
    | _, _ => none
end
theorem dpAll_of : ∀ {ws : List W} {vs : List V} {ds : List PyData}, ws.length = vs.length → (∀ (i : Nat) (w : W) (v : V), ws[i]? = some w → vs[i]? = some v → ∀ d, toPD w = some d → Dp K H v d) → toPDs ws = some ds → DpAll K H vs ds
  | [], [], ds, _, _, e => by simp only [toPDs, Option.some.injEq] at e; subst e; exact .nil
  | [], _ :: _, _, l, _, _ => by simp at l
  | _ :: _, [], _, l, _, _ => by simp at l
  | w :: ws, v :: vs, ds, l, h, e => by
    simp only [toPDs] at e
    cases e1 : toPD w with
    | none => rw [e1] at e; simp at e
    | some d =>
      cases e2 : toPDs ws with
      | none => rw [e1, e2] at e; simp at e
      | some ds' =>
        rw [e1, e2] at e
        simp only [Option.some.injEq] at e
        subst e
        exact .cons (h 0 w v rfl rfl d e1) (dpAll_of (by simpa using l) (fun i w' v' a b => h (i + 1) w' v' (by simpa using a) (by simpa using b)) e2)
theorem Rw.dp {d : PyData} (h : Rw K mg io M H w v) (e : toPD w = some d) : Dp K H v d := by
  induction h generalizing d with
  | non => simp only [toPD, Option.some.injEq] at e; subst e; exact .non
  | bl b => simp only [toPD, Option.some.injEq] at e; subst e; exact .bl b
  | int i => simp only [toPD, Option.some.injEq] at e; subst e; exact .int i
  | str x => simp only [toPD, Option.some.injEq] at e; subst e; exact .str x
  | byt b => simp [toPD] at e
  | tup h l _ ih =>
    simp only [toPD, Option.map_eq_some_iff] at e
    obtain ⟨ds, e1, rfl⟩ := e
    exact .tup (h.elim (fun z => SqT.of z.1) fun z => .inr z.1) (dpAll_of l (fun i w v a b d q => ih i w v a b q) e1)
  | frl h l _ ih =>
    simp only [toPD, Option.map_eq_some_iff] at e
    obtain ⟨ds, e1, rfl⟩ := e
    exact .lst (h.imp (fun z => z.1) id) (dpAll_of l (fun i w v a b d q => ih i w v a b q) e1)
  | lst h n l _ ih =>
    simp only [toPD, Option.map_eq_some_iff] at e
    obtain ⟨ds, e1, rfl⟩ := e
    exact .lst (SqL.of h) (dpAll_of l (fun i w v a b d q => ih i w v a b q) e1)
  | dK h n l _ ih => simp [toPD] at e
  | dT h n l _ ih => simp [toPD] at e
  | dF h n l _ ih => simp [toPD] at e
  | obj m h n l _ ih => simp [toPD] at e
  | slt m h n h2 n2 l _ ih => simp [toPD] at e
  | ref h => simp [toPD] at e
theorem Rn.dp {d : PyData} (h : Rn K mg io M H w v) (e : toPD w = some d) : Dp K H v d := by
  rcases h with h | ⟨c, o, a, rfl, rfl, ha, hc⟩
  · exact h.dp e
  · cases c with
    | lst ws =>
      obtain ⟨vs, rfl, r⟩ := hc
      simp only [Cell.toW, toPD, Option.map_eq_some_iff] at e
      obtain ⟨ds, e1, rfl⟩ := e
      exact .lst (SqL.of ha) (dpAll_of r.1 (fun i w v a b d q => (r.2 i w v a b).dp q) e1)
    | dK ws => simp [toPD] at e
    | dT ws => simp [toPD] at e
    | ins nm ws => simp [toPD] at e
end
instance (i j : Int) : Decidable (CMul i j) := by unfold CMul; infer_instance
instance (i j : Int) : Decidable (CDivW i j) := by unfold CDivW; infer_instance
instance (i j : Int) : Decidable (CPow i j) := by unfold CPow; infer_instance
def fI (g : Int → Int → Int) : W → W → Option OR
  | .int i, .int j => some (.imm (.int (g i j)))
  | _, _ => none
def fIC (C : Int → Int → Prop) [∀ i j, Decidable (C i j)] (g : Int → Int → Int) : W → W → Option OR
  | .int i, .int j => if C i j then some (.imm (.int (g i j))) else none
  | _, _ => none
def fIB (g : Int → Int → Bool) : W → W → Option OR
  | .int i, .int j => some (.imm (.bl (g i j)))
  | _, _ => none
section
variable {X : Cx}
theorem om_I {g : Int → Int → Int} {op : Value → Value → Sem Value} (h : OpR X op (rI0 fun i j => .int (g i j))) : OpM X op (fI g) := by
  refine ⟨_, h, fun io M H x y vx vy z Q rx ry e q => ?_⟩
  unfold fI at e
  split at e
  · rename_i i j
    cases e
    exact ⟨i, j, rx.int, ry.int, q _ (.int _)⟩
  · cases e
theorem om_IC {C : Int → Int → Prop} [∀ i j, Decidable (C i j)] {g : Int → Int → Int} {op : Value → Value → Sem Value} (h : OpR X op (rI C fun i j => .int (g i j))) : OpM X op (fIC C g) := by
  refine ⟨_, h, fun io M H x y vx vy z Q rx ry e q => ?_⟩
  unfold fIC at e
  split at e
  · rename_i i j
    split at e
    · rename_i hc
      cases e
      exact ⟨i, j, rx.int, ry.int, hc, q _ (.int _)⟩
    · cases e
  · cases e
theorem om_IB {g : Int → Int → Bool} {op : Value → Value → Sem Value} (h : OpR X op (rI0 fun i j => .bl (g i j))) : OpM X op (fIB g) := by
  refine ⟨_, h, fun io M H x y vx vy z Q rx ry e q => ?_⟩
  unfold fIB at e
  split at e
  · rename_i i j
    cases e
    exact ⟨i, j, rx.int, ry.int, q _ (.bl _)⟩
  · cases e
def fU (g : Int → Int) : W → Option OR
  | .int i => some (.imm (.int (g i)))
  | _ => none
theorem um_I {g : Int → Int} {op : Value → Sem Value} (h : UnR X op (rU fun i => .int (g i))) : UnM X op (fU g) := by
  refine ⟨_, h, fun io M H x vx z Q rx e q => ?_⟩
  unfold fU at e
  split at e
  · rename_i i
    cases e
    exact ⟨i, rx.int, q _ (.int _)⟩
  · cases e
def sz : Nat := 16777216
theorem sz_eq : sizeLine = sz := sizeLine_eq
def fAddS : W → W → Option OR
  | .str a, .str b => if a.length + b.length ≤ sz then some (.imm (.str (a ++ b))) else none
  | _, _ => none
theorem om_addS : OpM X (binaryOp .Add) fAddS := by
  refine ⟨_, op_add_str, fun io M H x y vx vy z Q rx ry e q => ?_⟩
  unfold fAddS at e
  split at e
  · split at e
    · rename_i h
      cases e
      exact ⟨_, _, rx.str, ry.str, by rw [sz_eq]; exact h, q _ (.str _)⟩
    · cases e
  · cases e
def fAddL : W → W → Option OR
  | .lst a, .lst b => if a.length + b.length ≤ sz then some (.newl (a ++ b)) else none
  | _, _ => none
theorem om_addL : OpM X (binaryOp .Add) fAddL := by
  refine ⟨_, op_cat, fun io M H x y vx vy z Q rx ry e q => ?_⟩
  unfold fAddL at e
  split at e
  · split at e
    · rename_i h
      cases e
      obtain ⟨a, vs, rfl, ha, r1⟩ := rx.lst
      obtain ⟨b, us, rfl, hb, r2⟩ := ry.lst
      exact ⟨a, b, vs, us, rfl, rfl, ha, hb, by rw [sz_eq, ← r1.1, ← r2.1]; exact h, fun p hp => q p _ hp (r1.append r2)⟩
    · cases e
  · cases e
def fAddT : W → W → Option OR
  | .tup [], .tup bs => if bs.length ≤ sz then some (.imm (.tup bs)) else none
  | .tup (a :: as), .tup [] => if (a :: as).length ≤ sz then some (.imm (.tup (a :: as))) else none
  | .tup (a :: as), .tup (b :: bs) => if (a :: as).length + (b :: bs).length ≤ sz then some (.newt (a :: as ++ b :: bs)) else none
  | _, _ => none
theorem om_addT : OpM X (binaryOp .Add) fAddT := by
  refine ⟨_, op_catA, fun io M H x y vx vy z Q rx ry e q => ?_⟩
  unfold fAddT at e
  split at e
  · split at e
    · rename_i h
      cases e
      have rw := ry.tupRw
      obtain ⟨a, vs, rfl, ha, r1⟩ := rx.tup
      obtain ⟨b, us, rfl, hb, r2⟩ := ry.tup
      have hv : vs = [] := by have := r1.1; simpa using this.symm
      subst hv
      refine ⟨a, b, [], us, rfl, rfl, ha, hb, by rw [sz_eq, ← r2.1]; simpa using h, fun _ => q _ rw, fun z => absurd rfl z, fun z => absurd rfl z⟩
    · cases e
  · split at e
    · rename_i h
      cases e
      have rw := rx.tupRw
      obtain ⟨a, vs, rfl, ha, r1⟩ := rx.tup
      obtain ⟨b, us, rfl, hb, r2⟩ := ry.tup
      have hu : us = [] := by have := r2.1; simpa using this.symm
      subst hu
      refine ⟨a, b, vs, [], rfl, rfl, ha, hb, by rw [sz_eq, ← r1.1]; simpa using h, fun z => ?_, fun _ _ => q _ rw, fun _ z => absurd rfl z⟩
      have := r1.1; rw [z] at this; simp at this
    · cases e
  · split at e
    · rename_i h
      cases e
      obtain ⟨a, vs, rfl, ha, r1⟩ := rx.tup
      obtain ⟨b, us, rfl, hb, r2⟩ := ry.tup
      refine ⟨a, b, vs, us, rfl, rfl, ha, hb, by rw [sz_eq, ← r1.1, ← r2.1]; exact h, fun z => ?_, fun _ z => ?_, fun _ _ p hp => q p _ hp (r1.append r2)⟩
      · have := r1.1; rw [z] at this; simp at this
      · have := r2.1; rw [z] at this; simp at this
    · cases e
  · cases e
def fAdd : W → W → Option OR := orf (fI fun i j => i + j) (orf fAddS (orf fAddL fAddT))
theorem om_add : OpM X (binaryOp .Add) fAdd := (om_I op_add).or (om_addS.or (om_addL.or om_addT))
def fSub : W → W → Option OR := fI fun i j => i - j
theorem om_sub : OpM X (binaryOp .Sub) fSub := om_I op_sub
def repW (ws : List W) (k : Nat) : List W := (List.replicate k ws).flatten
def fRepL : W → W → Option OR
  | .lst a, .int k => if -(2 ^ 63) ≤ k ∧ k < 2 ^ 63 ∧ a.length * k.toNat ≤ sz then some (.newl (repW a k.toNat)) else none
  | _, _ => none
end
end Z
set_option Elab.async false
set_option linter.all false
set_option maxRecDepth 100000
namespace Z
open PySem PySem.Spec PyProof.Rows L2
section
variable {X : Cx}
theorem Rws.rep {K : PySem.W.Frag} {mg : Str → Option Value} {io : List Addr} {M : Addr → Prop} {H : Hp} {ws : List W} {vs : List V} (h : Rws K mg io M H ws vs) : ∀ k : Nat, Rws K mg io M H (repW ws k) (List.replicate k vs).flatten
  | 0 => Rws.nil
  | k + 1 => by
    unfold repW
    rw [List.replicate_succ, List.replicate_succ, List.flatten_cons, List.flatten_cons]
    exact h.append (Rws.rep h k)
theorem om_repL : OpM X (binaryOp .Mult) fRepL := by
  refine ⟨_, op_rep, fun io M H x y vx vy z Q rx ry e q => ?_⟩
  unfold fRepL at e
  split at e
  · split at e
    · rename_i h
      cases e
      obtain ⟨a, vs, rfl, ha, r1⟩ := rx.lst
      exact ⟨a, _, vs, rfl, ry.int, ha, h.1, h.2.1, by rw [sz_eq, ← r1.1]; exact h.2.2, fun p hp => q p _ hp (r1.rep _)⟩
    · cases e
  · cases e
def fMul : W → W → Option OR := orf (fIC CMul fun i j => i * j) fRepL
theorem om_mul : OpM X (binaryOp .Mult) fMul := (om_IC op_mul).or om_repL
def fDiv : W → W → Option OR := fIC CDivW fun i j => i / j
theorem om_div : OpM X (binaryOp .FloorDiv) fDiv := om_IC op_fdivW
def fMod : W → W → Option OR := fIC (fun _ j => 0 < j) fun i j => i % j
theorem om_mod : OpM X (binaryOp .Mod) fMod := om_IC op_mod
def fPow : W → W → Option OR := fIC CPow fun i j => i ^ j.toNat
theorem om_pow : OpM X (binaryOp .Pow) fPow := om_IC op_pow
def fShl : W → W → Option OR := fIC CPow fun i j => i * 2 ^ j.toNat
theorem om_shl : OpM X (binaryOp .LShift) fShl := om_IC op_shl
def fShr : W → W → Option OR := fIC (fun _ j => 0 ≤ j) fun i j => i / 2 ^ j.toNat
theorem om_shr : OpM X (binaryOp .RShift) fShr := om_IC op_shr
def fBAnd : W → W → Option OR := fI Builtin.bitAnd
theorem om_band : OpM X (binaryOp .BitAnd) fBAnd := om_I op_and
def fNeg : W → Option OR := fU fun i => -i
theorem um_neg : UnM X (unaryOp .USub) fNeg := um_I un_neg
def fInv : W → Option OR := fU Builtin.bitNot
theorem um_inv : UnM X (unaryOp .Invert) fInv := um_I un_inv
def fLt : W → W → Option OR := fIB fun i j => decide (i < j)
theorem om_lt : OpM X (compareOp .Lt) fLt := om_IB op_lt
def fLe : W → W → Option OR := fIB fun i j => decide (i ≤ j)
theorem om_le : OpM X (compareOp .LtE) fLe := om_IB op_le
def fGt : W → W → Option OR := fIB fun i j => decide (j < i)
theorem om_gt : OpM X (compareOp .Gt) fGt := om_IB op_gt
def eqP (x y : W) : Option Bool := match toPD x, toPD y with
  | some d, some e => if SeqAt.shaped d = true ∧ SeqAt.shaped e = true then some (PyData.eqv d e) else none
  | _, _ => none
theorem eqP_some {x y : W} {b : Bool} (h : eqP x y = some b) : ∃ d e, toPD x = some d ∧ toPD y = some e ∧ SeqAt.shaped d = true ∧ SeqAt.shaped e = true ∧ b = PyData.eqv d e := by
  unfold eqP at h
  split at h
  · rename_i d e h1 h2
    split at h
    · rename_i h3
      cases h
      exact ⟨d, e, h1, h2, h3.1, h3.2, rfl⟩
    · cases h
  · cases h
def fEqD (x y : W) : Option OR := (eqP x y).map fun b => .imm (.bl b)
def fNeD (x y : W) : Option OR := (eqP x y).map fun b => .imm (.bl (!b))
theorem om_eqD (hu : X.A.units + 64 < cLine) : OpM X (compareOp .Eq) fEqD := by
  refine ⟨_, op_eqD hu, fun io M H x y vx vy z Q rx ry e q => ?_⟩
  unfold fEqD at e
  obtain ⟨b, e1, rfl⟩ := Option.map_eq_some_iff.mp e
  obtain ⟨d, e', h1, h2, h3, h4, rfl⟩ := eqP_some e1
  exact ⟨d, e', rx.dp h1, ry.dp h2, h3, h4, q _ (.bl _)⟩
theorem om_neD (hu : X.A.units + 64 < cLine) : OpM X (compareOp .NotEq) fNeD := by
  refine ⟨_, op_neD hu, fun io M H x y vx vy z Q rx ry e q => ?_⟩
  unfold fNeD at e
  obtain ⟨b, e1, rfl⟩ := Option.map_eq_some_iff.mp e
  obtain ⟨d, e', h1, h2, h3, h4, rfl⟩ := eqP_some e1
  exact ⟨d, e', rx.dp h1, ry.dp h2, h3, h4, q _ (.bl _)⟩
def fIsN : W → W → Option OR
  | .non, .non => some (.imm (.bl true))
  | .ref _, .non => none
  | _, .non => some (.imm (.bl false))
  | _, _ => none
theorem Rn.notNon {K : PySem.W.Frag} {mg : Str → Option Value} {io : List Addr} {M : Addr → Prop} {H : Hp} {w : W} {v : V} (h : Rn K mg io M H w v) (hn : w ≠ .non) : decide (v = .non) = false := by
  rcases h with h | ⟨c, o, a, e, rfl, ha, hc⟩
  · cases h <;> first | exact absurd rfl hn | rfl
  · rfl
theorem om_isN : OpM X (compareOp .Is) fIsN := by
  refine ⟨_, op_isN, fun io M H x y vx vy z Q rx ry e q => ?_⟩
  unfold fIsN at e
  split at e
  · cases e
    have h1 := rx.non
    subst h1
    exact ⟨ry.non, q _ (.bl _)⟩
  · cases e
  · rename_i h1 h2
    cases e
    refine ⟨ry.non, ?_⟩
    rw [rx.notNon (fun z => h1 z)]
    exact q _ (.bl _)
  · cases e
def anyP (x : W) (ws : List W) : Option Bool := match toPD x, toPDs ws with
  | some d, some ds => if SeqAt.shaped d = true ∧ SeqAt.shaped (.list ds) = true then some (ds.any fun z => PyData.eqv z d) else none
  | _, _ => none
def fInL (neg : Bool) : W → W → Option OR
  | x, .lst ws => (anyP x ws).map fun b => .imm (.bl (b != neg))
  | x, .frl ws => (anyP x ws).map fun b => .imm (.bl (b != neg))
  | _, _ => none
theorem anyP_some {x : W} {ws : List W} {b : Bool} (h : anyP x ws = some b) : ∃ d ds, toPD x = some d ∧ toPDs ws = some ds ∧ SeqAt.shaped d = true ∧ SeqAt.shaped (.list ds) = true ∧ b = ds.any fun z => PyData.eqv z d := by
  unfold anyP at h
  split at h
  · rename_i d e h1 h2
    split at h
    · rename_i h3
      cases h
      exact ⟨d, e, h1, h2, h3.1, h3.2, rfl⟩
    · cases h
  · cases h
theorem om_inL (hu : X.A.units + 65 < cLine) : OpM X (compareOp .In) (fInL false) := by
  refine ⟨_, op_inD hu, fun io M H x y vx vy z Q rx ry e q => ?_⟩
  unfold fInL at e
  split at e
  · obtain ⟨b, e1, rfl⟩ := Option.map_eq_some_iff.mp e
    obtain ⟨d, ds, h1, h2, h3, h4, rfl⟩ := anyP_some e1
    refine ⟨d, ds, rx.dp h1, ry.dp (by simp [toPD, h2]), h3, h4, ?_⟩
    simpa using q _ (.bl _)
  · obtain ⟨b, e1, rfl⟩ := Option.map_eq_some_iff.mp e
    obtain ⟨d, ds, h1, h2, h3, h4, rfl⟩ := anyP_some e1
    refine ⟨d, ds, rx.dp h1, ry.dp (by simp [toPD, h2]), h3, h4, ?_⟩
    simpa using q _ (.bl _)
  · cases e
theorem om_notInL (hu : X.A.units + 65 < cLine) : OpM X (compareOp .NotIn) (fInL true) := by
  refine ⟨_, op_notInD hu, fun io M H x y vx vy z Q rx ry e q => ?_⟩
  unfold fInL at e
  split at e
  · obtain ⟨b, e1, rfl⟩ := Option.map_eq_some_iff.mp e
    obtain ⟨d, ds, h1, h2, h3, h4, rfl⟩ := anyP_some e1
    refine ⟨d, ds, rx.dp h1, ry.dp (by simp [toPD, h2]), h3, h4, ?_⟩
    have := q _ (.bl _)
    rwa [Bool.bne_true] at this
  · obtain ⟨b, e1, rfl⟩ := Option.map_eq_some_iff.mp e
    obtain ⟨d, ds, h1, h2, h3, h4, rfl⟩ := anyP_some e1
    refine ⟨d, ds, rx.dp h1, ry.dp (by simp [toPD, h2]), h3, h4, ?_⟩
    have := q _ (.bl _)
    rwa [Bool.bne_true] at this
  · cases e
def toV : W → Option V
  | .non => some .non
  | .bl b => some (.bl b)
  | .int i => some (.int i)
  | .str x => some (.str x)
  | _ => none
def toVs : List W → Option (List V)
  | [] => some []
  | w :: ws => match toV w, toVs ws with
    | some v, some vs => some (v :: vs)
    | _, _ => none
theorem Rw.toV {K : PySem.W.Frag} {mg : Str → Option Value} {io : List Addr} {M : Addr → Prop} {H : Hp} {w : W} {v u : V} (h : Rw K mg io M H w v) (e : Z.toV w = some u) : v = u ∧ flatV u = true := by
  cases h <;> simp [Z.toV] at e <;> subst e <;> exact ⟨rfl, rfl⟩
theorem Rn.toV {K : PySem.W.Frag} {mg : Str → Option Value} {io : List Addr} {M : Addr → Prop} {H : Hp} {w : W} {v u : V} (h : Rn K mg io M H w v) (e : Z.toV w = some u) : v = u ∧ flatV u = true := by
  rcases h with h | ⟨c, o, a, rfl, rfl, ha, hc⟩
  · exact h.toV e
  · cases c <;> simp [Z.toV] at e
theorem Rws.toVs {K : PySem.W.Frag} {mg : Str → Option Value} {io : List Addr} {M : Addr → Prop} {H : Hp} : ∀ {ws : List W} {vs us : List V}, Rws K mg io M H ws vs → Z.toVs ws = some us → vs = us ∧ us.all flatV = true
  | [], vs, us, h, e => by
    rw [h.nil_inv]
    simp only [Z.toVs, Option.some.injEq] at e
    subst e
    exact ⟨rfl, rfl⟩
  | w :: ws, vs, us, h, e => by
    obtain ⟨v, r, rfl, h1, h2⟩ := h.cons_inv
    simp only [Z.toVs] at e
    cases e1 : Z.toV w with
    | none => rw [e1] at e; simp at e
    | some u =>
      cases e2 : Z.toVs ws with
      | none => rw [e1, e2] at e; simp at e
      | some us' =>
        rw [e1, e2] at e
        simp only [Option.some.injEq] at e
        subst e
        obtain ⟨rfl, f1⟩ := h1.toV e1
        obtain ⟨rfl, f2⟩ := Rws.toVs h2 e2
        exact ⟨rfl, by simp [f1, f2]⟩
def fInT (neg : Bool) : W → W → Option OR
  | x, .tup ws => match Z.toV x, Z.toVs ws with
    | some v, some vs => some (.imm (.bl (inV v vs != neg)))
    | _, _ => none
  | _, _ => none
theorem om_inT : OpM X (compareOp .In) (fInT false) := by
  refine ⟨_, op_in_seq, fun io M H x y vx vy z Q rx ry e q => ?_⟩
  unfold fInT at e
  split at e
  · split at e
    · rename_i h1 h2
      cases e
      obtain ⟨a, vs, rfl, ha, r⟩ := ry.tup
      obtain ⟨rfl, f1⟩ := rx.toV h1
      obtain ⟨rfl, f2⟩ := r.toVs h2
      refine ⟨a, _, rfl, .inr ha, f1, f2, ?_⟩
      simpa using q _ (.bl _)
    · cases e
  · cases e
theorem om_notInT : OpM X (compareOp .NotIn) (fInT true) := by
  refine ⟨_, op_notIn_seq, fun io M H x y vx vy z Q rx ry e q => ?_⟩
  unfold fInT at e
  split at e
  · split at e
    · rename_i h1 h2
      cases e
      obtain ⟨a, vs, rfl, ha, r⟩ := ry.tup
      obtain ⟨rfl, f1⟩ := rx.toV h1
      obtain ⟨rfl, f2⟩ := r.toVs h2
      refine ⟨a, _, rfl, .inr ha, f1, f2, ?_⟩
      have := q _ (.bl _)
      rwa [Bool.bne_true] at this
    · cases e
  · cases e
def keyOf : W → Option Key
  | .int i => some (.inl i)
  | .str x => some (.inr x)
  | _ => none
def keysOf : List W → Option (List Key)
  | [] => some []
  | w :: ws => match keyOf w, keysOf ws with
    | some v, some vs => some (v :: vs)
    | _, _ => none
theorem Rn.key {K : PySem.W.Frag} {mg : Str → Option Value} {io : List Addr} {M : Addr → Prop} {H : Hp} {w : W} {v : V} {k : Key} (h : Rn K mg io M H w v) (e : keyOf w = some k) : v = kV k := by
  rcases h with h | ⟨c, o, a, rfl, rfl, ha, hc⟩
  · cases h <;> simp [keyOf] at e <;> subst e <;> rfl
  · cases c <;> simp [keyOf] at e
theorem Rws.keys {K : PySem.W.Frag} {mg : Str → Option Value} {io : List Addr} {M : Addr → Prop} {H : Hp} : ∀ {ws : List W} {vs : List V} {ks : List Key}, Rws K mg io M H ws vs → keysOf ws = some ks → vs = ks.map kV
  | [], vs, ks, h, e => by
    rw [h.nil_inv]
    simp only [keysOf, Option.some.injEq] at e
    subst e
    rfl
  | w :: ws, vs, ks, h, e => by
    obtain ⟨v, r, rfl, h1, h2⟩ := h.cons_inv
    simp only [keysOf] at e
    cases e1 : keyOf w with
    | none => rw [e1] at e; simp at e
    | some u =>
      cases e2 : keysOf ws with
      | none => rw [e1, e2] at e; simp at e
      | some us' =>
        rw [e1, e2] at e
        simp only [Option.some.injEq] at e
        subst e
        rw [(Rn.key (.inl h1) e1), Rws.keys h2 e2]
        rfl
def tkOf : W → Option (List Key)
  | .tup (w :: ws) => keysOf (w :: ws)
  | _ => none
def valW {κ : Type} [DecidableEq κ] (kvs : List (κ × W)) (k : κ) : Option W := (kvs.find? fun kv => decide (kv.1 = k)).map (·.2)
theorem Rkv.valW {κ : Type} [DecidableEq κ] {K : PySem.W.Frag} {mg : Str → Option Value} {io : List Addr} {M : Addr → Prop} {H : Hp} {k : κ} : ∀ {ws : List (κ × W)} {vs : List (κ × V)}, Rkv K mg io M H ws vs →
    (Z.valW ws k).isSome = (valV vs k).isSome ∧ ∀ w, Z.valW ws k = some w → ∃ v, valV vs k = some v ∧ Rw K mg io M H w v
  | [], vs, h => by rw [h.nil_inv]; exact ⟨rfl, fun w e => by simp [Z.valW] at e⟩
  | (k', w') :: ws, vs, h => by
    obtain ⟨v, r, rfl, h1, h2⟩ := h.cons_inv
    by_cases q : k' = k
    · refine ⟨?_, fun w e => ?_⟩
      · rw [valV_pos (p := (k', v)) q]; simp [Z.valW, q]
      · simp [Z.valW, q] at e
        subst e
        exact ⟨v, valV_pos (p := (k', v)) q, h1⟩
    · obtain ⟨i1, i2⟩ := Rkv.valW h2
      have e0 : Z.valW ((k', w') :: ws) k = Z.valW ws k := by simp [Z.valW, q]
      rw [e0, valV_neg (p := (k', v)) q]
      exact ⟨i1, i2⟩
def dLook : W → W → Option (Option W)
  | .dK kvs, k => (keyOf k).map fun k => valW kvs k
  | .dT kvs, k => (tkOf k).map fun k => valW kvs k
  | .dF kvs, k => (tkOf k).map fun k => valW kvs k
  | _, _ => none
theorem tk_inv {k : W} {ks : List Key} (h : tkOf k = some ks) : ∃ w ws, k = .tup (w :: ws) ∧ keysOf (w :: ws) = some ks := by
  unfold tkOf at h
  split at h
  · exact ⟨_, _, rfl, h⟩
  · cases h
theorem dLook_ok {K : PySem.W.Frag} {mg : Str → Option Value} {io : List Addr} {M : Addr → Prop} {H : Hp} {d k : W} {vd vk : V} {r : Option W} (hd : Rn K mg io M H d vd) (hk : Rn K mg io M H k vk) (e : dLook d k = some r) :
    ∃ a o, vd = .ref a ∧ DGet H a vk o ∧ o.isSome = r.isSome ∧ ∀ w, r = some w → ∃ v, o = some v ∧ Rw K mg io M H w v := by
  unfold dLook at e
  split at e
  · obtain ⟨k', e1, rfl⟩ := Option.map_eq_some_iff.mp e
    obtain ⟨a, vs, rfl, ha, rr⟩ := hd.dK
    obtain ⟨i1, i2⟩ := rr.valW (k := k')
    exact ⟨a, valV vs k', rfl, .inl ⟨vs, k', ha, hk.key e1, rfl⟩, i1.symm, i2⟩
  · obtain ⟨k', e1, rfl⟩ := Option.map_eq_some_iff.mp e
    obtain ⟨a, vs, rfl, ha, rr⟩ := hd.dT
    obtain ⟨i1, i2⟩ := rr.valW (k := k')
    obtain ⟨w, ws, rfl, e2⟩ := tk_inv e1
    obtain ⟨b, us, rfl, hb, r2⟩ := hk.tup1
    exact ⟨a, valV vs k', rfl, .inr ⟨vs, k', b, ha, rfl, by rw [hb, r2.keys e2], rfl⟩, i1.symm, i2⟩
  · obtain ⟨k', e1, rfl⟩ := Option.map_eq_some_iff.mp e
    obtain ⟨a, ob, vs, rfl, ha, _, rr⟩ := hd.dF
    obtain ⟨i1, i2⟩ := rr.valW (k := k')
    obtain ⟨w, ws, rfl, e2⟩ := tk_inv e1
    obtain ⟨b, us, rfl, hb, r2⟩ := hk.tup1
    exact ⟨a, valV vs k', rfl, .inr ⟨vs, k', b, .inr ⟨ob, ha⟩, rfl, by rw [hb, r2.keys e2], rfl⟩, i1.symm, i2⟩
  · cases e
def fInD (neg : Bool) : W → W → Option OR := fun k d => (dLook d k).map fun r => .imm (.bl (r.isSome != neg))
theorem om_inDict (hu : X.A.units + 1 < cLine) : OpM X (compareOp .In) (fInD false) := by
  refine ⟨fun y x H Q => ∃ a o, x = .ref a ∧ DGet H a y o ∧ Q (.bl o.isSome) H, ?_, fun io M H x y vx vy z Q rx ry e q => ?_⟩
  · intro pins s σ H x y v u Q I rx ry h
    obtain ⟨a, o, rfl, g, q⟩ := h
    cases ry
    exact d_in hu I g rx fun s' I' => ⟨.bl o.isSome, H, I', rfl, q⟩
  · obtain ⟨r, e1, rfl⟩ := Option.map_eq_some_iff.mp e
    obtain ⟨a, o, rfl, g, h1, _⟩ := dLook_ok ry rx e1
    refine ⟨a, o, rfl, g, ?_⟩
    rw [h1]
    simpa using q _ (.bl _)
theorem om_notInDict (hu : X.A.units + 1 < cLine) : OpM X (compareOp .NotIn) (fInD true) := by
  refine ⟨fun y x H Q => ∃ a o, x = .ref a ∧ DGet H a y o ∧ Q (.bl (!o.isSome)) H, ?_, fun io M H x y vx vy z Q rx ry e q => ?_⟩
  · intro pins s σ H x y v u Q I rx ry h
    obtain ⟨a, o, rfl, g, q⟩ := h
    cases ry
    exact d_notIn hu I g rx fun s' I' => ⟨.bl (!o.isSome), H, I', rfl, q⟩
  · obtain ⟨r, e1, rfl⟩ := Option.map_eq_some_iff.mp e
    obtain ⟨a, o, rfl, g, h1, _⟩ := dLook_ok ry rx e1
    refine ⟨a, o, rfl, g, ?_⟩
    rw [h1]
    have := q _ (.bl _)
    rwa [Bool.bne_true] at this
def fIn (neg : Bool) : W → W → Option OR := orf (fInL neg) (orf (fInT neg) (fInD neg))
theorem om_in (hu : X.A.units + 65 < cLine) : OpM X (compareOp .In) (fIn false) := (om_inL hu).or (om_inT.or (om_inDict (by omega)))
theorem om_notIn (hu : X.A.units + 65 < cLine) : OpM X (compareOp .NotIn) (fIn true) := (om_notInL hu).or (om_notInT.or (om_notInDict (by omega)))
def IxM (X : Cx) (f : W → W → Option OR) : Prop :=
  ∃ r : R2, IxR X r ∧ ∀ io M H x y vx vy z Q, Rn X.K X.mg io M H x vx → Rn X.K X.mg io M H y vy → f x y = some z → OQ X.K X.mg io M H z Q → r vx vy H Q
theorem IxM.or {f f' : W → W → Option OR} (h : IxM X f) (h' : IxM X f') : IxM X (orf f f') := by
  obtain ⟨r, a, b⟩ := h
  obtain ⟨r', a', b'⟩ := h'
  refine ⟨_, a.or a', fun io M H x y vx vy z Q rx ry e q => ?_⟩
  unfold orf at e
  cases k : f x y with
  | some z' =>
    rw [k] at e
    cases e
    exact .inl (b io M H x y vx vy z Q rx ry k q)
  | none =>
    rw [k] at e
    exact .inr (b' io M H x y vx vy z Q rx ry e q)
theorem Rws.atI {K : PySem.W.Frag} {mg : Str → Option Value} {io : List Addr} {M : Addr → Prop} {H : Hp} {ws : List W} {vs : List V} {i : Int} {w : W} (r : Rws K mg io M H ws vs) (e : L2.atI ws i = some w) : ∃ v, L2.atI vs i = some v ∧ Rw K mg io M H w v := by
  unfold L2.atI at e ⊢
  obtain ⟨j, e1, e2⟩ := Option.bind_eq_some_iff.mp e
  obtain ⟨v, h1, h2⟩ := r.get e2
  exact ⟨v, by rw [← r.1, e1]; exact h1, h2⟩
def fIxS : W → W → Option OR
  | .lst ws, .int i => (atI ws i).map .imm
  | .frl ws, .int i => (atI ws i).map .imm
  | .tup ws, .int i => (atI ws i).map .imm
  | .str z, .int i => if z.length ≤ sz then (atI z.cps.toList i).map fun c => .imm (.str ⟨#[c]⟩) else none
  | _, _ => none
theorem xm_seq : IxM X fIxS := by
  refine ⟨_, ix_seq, fun io M H x y vx vy z Q rx ry e q => ?_⟩
  unfold fIxS at e
  split at e
  · obtain ⟨w, e1, rfl⟩ := Option.map_eq_some_iff.mp e
    obtain ⟨a, vs, rfl, ha, r⟩ := rx.lst
    obtain ⟨v, h1, h2⟩ := r.atI e1
    exact .inl ⟨a, vs, _, v, rfl, ry.int, SqL.of ha, h1, q v h2⟩
  · obtain ⟨w, e1, rfl⟩ := Option.map_eq_some_iff.mp e
    obtain ⟨a, vs, rfl, ha, r⟩ := rx.frl
    obtain ⟨v, h1, h2⟩ := r.atI e1
    exact .inl ⟨a, vs, _, v, rfl, ry.int, ha, h1, q v h2⟩
  · obtain ⟨w, e1, rfl⟩ := Option.map_eq_some_iff.mp e
    obtain ⟨a, vs, rfl, ha, r⟩ := rx.tup
    obtain ⟨v, h1, h2⟩ := r.atI e1
    exact .inr (.inl ⟨a, vs, _, v, rfl, ry.int, ha, h1, q v h2⟩)
  · split at e
    · rename_i hz
      obtain ⟨w, e1, rfl⟩ := Option.map_eq_some_iff.mp e
      exact .inr (.inr ⟨_, _, w, rx.str, ry.int, by rw [sz_eq]; exact hz, e1, q _ (.str _)⟩)
    · cases e
  · cases e
def fIxD : W → W → Option OR := fun d k => (dLook d k).bind fun r => r.map .imm
theorem xm_dict (hu : X.A.units + 1 < cLine) : IxM X fIxD := by
  refine ⟨fun x y H Q => ∃ a v, x = .ref a ∧ DGet H a y (some v) ∧ Q v H, ?_, fun io M H x y vx vy z Q rx ry e q => ?_⟩
  · intro value slice pins s σ H x y v u Q I rx ry h hs
    obtain ⟨a, z, rfl, g, q⟩ := h
    cases rx
    exact tail_any (dict_typeIs I g) PySem.F.slot_dict_getitem.lookup (d_getItem hu I g ry fun w' s' I' r => ⟨z, H, I', r, q⟩) hs
  · obtain ⟨r, e1, e2⟩ := Option.bind_eq_some_iff.mp e
    obtain ⟨w, rfl, rfl⟩ := Option.map_eq_some_iff.mp e2
    obtain ⟨a, o, rfl, g, _, h2⟩ := dLook_ok rx ry e1
    obtain ⟨v, rfl, hv⟩ := h2 w rfl
    exact ⟨a, v, rfl, g, q v hv⟩
def fIx : W → W → Option OR := orf fIxS fIxD
theorem xm_ix (hu : X.A.units + 1 < cLine) : IxM X fIx := xm_seq.or (xm_dict hu)
end
section
variable {X : Cx} {ea : EA} {Wx : WX} {a b c : Expr} {ma mb mc : Mo RV} {pos : Pos}
theorem pee_ix {f : W → W → Option OR} (ho : IxM X f) (ha : Pee X ea Wx a ma) (hb : Pee X ea Wx b mb) (hs : PlainIx b := by exact fun _ _ => rfl) : Pee X ea Wx (.Subscript a b pos) (mBin f ma mb) := by
  obtain ⟨ta, pa, ra⟩ := ha.ex
  obtain ⟨tb, pb, rb⟩ := hb.ex
  obtain ⟨r, h1, h2⟩ := ho
  exact ⟨_, pe_ix h1 pa pb hs, ref_op (X := X) (g := fun _ _ => pure .none) h2 ra rb⟩
end
end Z
set_option Elab.async false
set_option linter.all false
set_option maxRecDepth 100000
namespace Z
open PySem PySem.Spec PyProof.Rows L2
section
variable {K : PySem.W.Frag} {mg : Str → Option Value} {ea : EA} {io io' : List Addr} {Fr Fr' : Addr → Prop} {s s' s2 : S} {σ σ' : L2.St} {H H' : Hp} {w : W} {v : V} {c : Cell} {o : HO} {a p : Addr}
def mNil : Mo (List RV) := ret []
def mCons (m : Mo RV) (ms : Mo (List RV)) : Mo (List RV) := bnd m fun x => bnd ms fun xs => ret (settle x :: xs)
def freezeAll : List RV → Mo (List W)
  | [] => ret []
  | x :: xs => bnd (freeze x) fun w => bnd (freezeAll xs) fun ws => ret (w :: ws)
def lookAll : List RV → Mo (List W)
  | [] => ret []
  | x :: xs => bnd (look x) fun w => bnd (lookAll xs) fun ws => ret (w :: ws)
variable {Wx : WX}
theorem ref_nil : RefA K mg ea Wx tNil mNil := by
  intro σ H io Fr s S0 r0 s' e Q hok hex
  cases e
  exact hok _ rfl [] H io ⟨S0, .refl⟩ .nil
theorem ref_cons {te : TE} {m : Mo RV} {ta : TA} {ms : Mo (List RV)} (h : RefE K mg ea Wx te m) (t : RefA K mg ea Wx ta ms) : RefA K mg ea Wx (tCons te ta) (mCons m ms) := by
  intro σ H io Fr s S0 r0 s' e Q hok hex
  rcases bnd_some e with ⟨x, e1, rfl⟩ | ⟨x, s1, e1, e2⟩
  · exact h σ H io Fr s S0 _ _ e1 _ (fun _ q => by cases q) fun x' q cls d H' io' px => by
      cases q
      exact hex _ rfl cls d H' io' px
  · refine h σ H io Fr s S0 _ _ e1 _ (fun x' q vx H1 io1 px => ?_) (fun _ q => by cases q)
    cases q
    obtain ⟨S1, T1, R1⟩ := px.settled
    rcases bnd_some e2 with ⟨y, e3, rfl⟩ | ⟨ys, s2, e3, e4⟩
    · exact t σ H1 io1 Fr s1 S1 _ _ e3 _ (fun _ q => by cases q) fun x' q cls d H' io' py => by
        cases q
        exact hex _ rfl cls d H' io' ⟨py.1, T1.trans py.2.1, py.2.2⟩
    · refine t σ H1 io1 Fr s1 S1 _ _ e3 _ (fun y' q vy H2 io2 py R2 => ?_) (fun _ q => by cases q)
      cases q
      cases e4
      exact hok _ rfl _ H2 io2 ⟨py.1, T1.trans py.2⟩ (.cons (R1.pers py.2.p) R2)
theorem RvR.less {x : RV} {M M' : Addr → Prop} (h : ∀ b, M' b → M b) (r : RvR K mg io M σ H x v) : RvR K mg io M' σ H x v := r.pers (.less h)
theorem paired_mono {α β : Type} {F G : α → β → Prop} (h : ∀ a b, F a b → G a b) {xs : List α} {ys : List β} (p : Paired F xs ys) : Paired G xs ys := Paired.mapP p h
theorem freezeAll_ok : ∀ {xs : List RV} {vs : List V} {s s' : S} {r : Except Ex (List W)}, Sim K mg ea io Fr s σ H → Paired (RvR K mg io (Ms io Fr s σ) σ H) xs vs → freezeAll xs s = some (r, s') →
    s'.G = s.G ∧ (∀ b, Ms io Fr s' σ b → Ms io Fr s σ b) ∧ Sim K mg ea io Fr s' σ H ∧ ∃ ws, r = .ok ws ∧ Rws K mg io (Ms io Fr s' σ) H ws vs
  | [], vs, s, s', r, S0, p, e => by
    cases p
    cases e
    exact ⟨rfl, fun _ z => z, S0, [], rfl, Rws.nil⟩
  | x :: xs, vs, s, s', r, S0, p, e => by
    cases p with
    | cons p1 p2 =>
      rename_i v vs
      rcases bnd_some e with ⟨z, e1, rfl⟩ | ⟨w, s1, e1, e2⟩
      · obtain ⟨_, _, _, _, q, _⟩ := freeze_ok S0 p1 e1
        cases q
      · obtain ⟨g1, m1, S1, w', q, r1⟩ := freeze_ok S0 p1 e1
        cases q
        rcases bnd_some e2 with ⟨z, e3, rfl⟩ | ⟨ws, s2, e3, e4⟩
        · obtain ⟨_, _, _, _, q, _⟩ := freezeAll_ok S1 (paired_mono (fun a b z => z.less m1) p2) e3
          cases q
        · obtain ⟨g2, m2, S2, ws', q, r2⟩ := freezeAll_ok S1 (paired_mono (fun a b z => z.less m1) p2) e3
          cases q
          cases e4
          exact ⟨g2.trans g1, fun b z => m1 b (m2 b z), S2, _, rfl, Rws.cons (r1.pers (.less m2)) r2⟩
theorem lookAll_ok : ∀ {xs : List RV} {vs : List V} {s s' : S} {r : Except Ex (List W)}, Sim K mg ea io Fr s σ H → Paired (RvR K mg io (Ms io Fr s σ) σ H) xs vs → lookAll xs s = some (r, s') →
    s' = s ∧ ∃ ws, r = .ok ws ∧ Paired (Rn K mg io (Ms io Fr s σ) H) ws vs
  | [], vs, s, s', r, S0, p, e => by
    cases p
    cases e
    exact ⟨rfl, [], rfl, .nil⟩
  | x :: xs, vs, s, s', r, S0, p, e => by
    cases p with
    | cons p1 p2 =>
      rename_i v vs
      rcases bnd_some e with ⟨z, e1, rfl⟩ | ⟨w, s1, e1, e2⟩
      · obtain ⟨_, _, q, _⟩ := look_ok S0 p1 e1
        cases q
      · obtain ⟨rfl, w', q, r1⟩ := look_ok S0 p1 e1
        cases q
        rcases bnd_some e2 with ⟨z, e3, rfl⟩ | ⟨ws, s2, e3, e4⟩
        · obtain ⟨_, _, q, _⟩ := lookAll_ok S0 p2 e3
          cases q
        · obtain ⟨rfl, ws', q, r2⟩ := lookAll_ok S0 p2 e3
          cases q
          cases e4
          exact ⟨rfl, _, rfl, .cons r1 r2⟩
theorem arg2 {α : Type} {ta : TA} {ms : Mo (List RV)} (ha : RefA K mg ea Wx ta ms) (S0 : Sim K mg ea io Fr s σ H) {f : List RV → Mo α} {r : Except Ex α} (e : bnd ms f s = some (r, s'))
    (hex : ∀ x, r = .error x → ∀ cls d H' io', PostX K mg ea io Fr s σ H s' σ io' H' x cls d → Wx cls d σ H')
    {R : List V → Hp → Prop} (hR : ∀ xs vs s1 H1 io1, f xs s1 = some (r, s') → PostS K mg ea io Fr s σ H s1 σ io1 H1 → Paired (RvR K mg io1 (Ms io1 Fr s1 σ) σ H1) xs vs → R vs H1) : ta σ H R := by
  rcases bnd_some e with ⟨x, e1, rfl⟩ | ⟨b, s1, e1, e2⟩
  · exact ha σ H io Fr s S0 _ _ e1 _ (fun _ q => by cases q) fun x' q cls d H' io' px => by
      cases q
      exact hex _ rfl cls d H' io' px
  · refine ha σ H io Fr s S0 _ _ e1 _ (fun x' q vs H1 io1 px R1 => ?_) (fun _ q => by cases q)
    cases q
    exact hR _ vs s1 H1 io1 e2 px R1
theorem one2 {α : Type} {ta : TE} {m : Mo RV} (ha : RefE K mg ea Wx ta m) (S0 : Sim K mg ea io Fr s σ H) {f : RV → Mo α} {r : Except Ex α} (e : bnd m f s = some (r, s'))
    (hex : ∀ x, r = .error x → ∀ cls d H' io', PostX K mg ea io Fr s σ H s' σ io' H' x cls d → Wx cls d σ H')
    {R : V → Hp → Prop} (hR : ∀ x v s1 H1 io1, f x s1 = some (r, s') → PostE K mg ea io Fr s σ H s1 io1 H1 x v → R v H1) : ta σ H R := by
  rcases bnd_some e with ⟨x, e1, rfl⟩ | ⟨b, s1, e1, e2⟩
  · exact ha σ H io Fr s S0 _ _ e1 _ (fun _ q => by cases q) fun x' q cls d H' io' px => by
      cases q
      exact hex _ rfl cls d H' io' px
  · refine ha σ H io Fr s S0 _ _ e1 _ (fun x' q v H1 io1 px => ?_) (fun _ q => by cases q)
    cases q
    exact hR _ v s1 H1 io1 e2 px
theorem Stp.lessM {M M' M2 : Addr → Prop} (x : Stp io M Fr H io' M' H') (h : ∀ b, M2 b → M' b) : Stp io M Fr H io' M2 H' := x.less h
def mDisp (k : List W → RV) (ms : Mo (List RV)) : Mo RV := bnd ms fun xs => bnd (freezeAll xs) fun ws => if ws.length ≤ sz then ret (k ws) else stk
def mTup : Mo (List RV) → Mo RV := mDisp fun ws => .val (.tup ws)
def mLst : Mo (List RV) → Mo RV := mDisp fun ws => .own (.lst ws)
theorem ref_tup {ta : TA} {ms : Mo (List RV)} (ha : RefA K mg ea Wx ta ms) : RefE K mg ea Wx (tTup ta) (mTup ms) := by
  intro σ H io Fr s S0 r0 s' e Q hok hex
  refine arg2 ha S0 e hex fun xs vs s1 H1 io1 e2 px R1 => ?_
  rcases bnd_some e2 with ⟨x, e3, rfl⟩ | ⟨ws, s2, e3, e4⟩
  · obtain ⟨_, _, _, _, q, _⟩ := freezeAll_ok px.1 R1 e3
    cases q
  · obtain ⟨g, m, S2, ws', q, r2⟩ := freezeAll_ok px.1 R1 e3
    cases q
    split at e4
    · rename_i hz
      cases e4
      have := OQ.post (z := .newt ws) S2 (px.2.lessM m) fun v H3 io3 q => hok _ rfl v H3 io3 q
      exact ⟨by rw [sz_eq, ← r2.1]; exact hz, fun p hp => this p vs hp r2⟩
    · cases e4
theorem ref_lst {ta : TA} {ms : Mo (List RV)} (ha : RefA K mg ea Wx ta ms) : RefE K mg ea Wx (tLst ta) (mLst ms) := by
  intro σ H io Fr s S0 r0 s' e Q hok hex
  refine arg2 ha S0 e hex fun xs vs s1 H1 io1 e2 px R1 => ?_
  rcases bnd_some e2 with ⟨x, e3, rfl⟩ | ⟨ws, s2, e3, e4⟩
  · obtain ⟨_, _, _, _, q, _⟩ := freezeAll_ok px.1 R1 e3
    cases q
  · obtain ⟨g, m, S2, ws', q, r2⟩ := freezeAll_ok px.1 R1 e3
    cases q
    split at e4
    · rename_i hz
      cases e4
      have := OQ.post (z := .newl ws) S2 (px.2.lessM m) fun v H3 io3 q => hok _ rfl v H3 io3 q
      exact ⟨by rw [sz_eq, ← r2.1]; exact hz, fun p hp => this p vs hp r2⟩
    · cases e4
def CallM (X : Cx) (g : Value) (f : List W → Option OR) : Prop :=
  ∃ r : List V → Hp → VK → Prop, CallR X g r ∧ ∀ io M H ws vs z Q, Paired (Rn X.K X.mg io M H) ws vs → f ws = some z → OQ X.K X.mg io M H z Q → r vs H Q
def mCB (f : List W → Option OR) (ms : Mo (List RV)) : Mo RV := bnd ms fun xs => bnd (lookAll xs) fun ws => liftO (f ws)
theorem ref_cb {ta : TA} {ms : Mo (List RV)} {f : List W → Option OR} {r : List V → Hp → VK → Prop} (hr : ∀ io M H ws vs z Q, Paired (Rn K mg io M H) ws vs → f ws = some z → OQ K mg io M H z Q → r vs H Q)
    (ha : RefA K mg ea Wx ta ms) : RefE K mg ea Wx (tCB r ta) (mCB f ms) := by
  intro σ H io Fr s S0 r0 s' e Q hok hex
  refine arg2 ha S0 e hex fun xs vs s1 H1 io1 e2 px R1 => ?_
  rcases bnd_some e2 with ⟨x, e3, rfl⟩ | ⟨ws, s2, e3, e4⟩
  · obtain ⟨_, _, q, _⟩ := lookAll_ok px.1 R1 e3
    cases q
  · obtain ⟨rfl, ws', q, r2⟩ := lookAll_ok px.1 R1 e3
    cases q
    obtain ⟨rfl, u, hu, rfl⟩ := liftO_some e4
    exact hr _ _ _ _ _ _ _ r2 hu (OQ.post px.1 px.2 fun v H3 io3 q => hok _ rfl v H3 io3 q)
def or1 {α γ : Type} (f g : α → Option γ) : α → Option γ := fun x => match f x with
  | some z => some z
  | none => g x
theorem CallR.or {X : Cx} {f : Value} {r r' : List V → Hp → VK → Prop} (h : CallR X f r) (h' : CallR X f r') : CallR X f (fun xs H Q => r xs H Q ∨ r' xs H Q) := by
  intro pins s σ H xs us Q I rr q
  rcases q with q | q
  · exact h pins s σ H xs us Q I rr q
  · exact h' pins s σ H xs us Q I rr q
theorem CallM.or {X : Cx} {g : Value} {f f' : List W → Option OR} (h : CallM X g f) (h' : CallM X g f') : CallM X g (or1 f f') := by
  obtain ⟨r, a, b⟩ := h
  obtain ⟨r', a', b'⟩ := h'
  refine ⟨_, CallR.or a a', fun io M H ws vs z Q rx e q => ?_⟩
  unfold or1 at e
  cases k : f ws with
  | some z' =>
    rw [k] at e
    cases e
    exact .inl (b io M H ws vs z Q rx k q)
  | none =>
    rw [k] at e
    exact .inr (b' io M H ws vs z Q rx e q)
theorem p1 {α β : Type} {F : α → β → Prop} {x : α} {ys : List β} (h : Paired F [x] ys) : ∃ y, ys = [y] ∧ F x y := by
  cases h with
  | cons h t => cases t; exact ⟨_, rfl, h⟩
theorem p2 {α β : Type} {F : α → β → Prop} {x x' : α} {ys : List β} (h : Paired F [x, x'] ys) : ∃ y y', ys = [y, y'] ∧ F x y ∧ F x' y' := by
  cases h with
  | cons h t =>
    cases t with
    | cons h' t => cases t; exact ⟨_, _, rfl, h, h'⟩
end
section
variable {X : Cx}
def fLen : List W → Option OR
  | [w] => match seqOf w with
    | some ws => some (.imm (.int (ws.length : Nat)))
    | none => match w with
      | .str x => if x.length ≤ sz then some (.imm (.int (x.length : Nat))) else none
      | .byt x => if x.size ≤ sz then some (.imm (.int (x.size : Nat))) else none
      | _ => none
  | _ => none
theorem cm_len : CallM X (.builtin "len") fLen := by
  refine ⟨_, call_len, fun io M H ws vs z Q rx e q => ?_⟩
  unfold fLen at e
  split at e
  · rename_i w
    obtain ⟨v, rfl, r⟩ := p1 rx
    split at e
    · rename_i ws hs
      cases e
      obtain ⟨a, us, rfl, h, r2⟩ := r.seq (seqOf_some hs)
      refine ⟨_, us.length, rfl, h.imp (fun h => ⟨us, h, rfl⟩) (fun h => ⟨us, h, rfl⟩), ?_⟩
      rw [← r2.1]
      exact q _ (.int _)
    · split at e
      · split at e
        · rename_i hz
          cases e
          have := r.str
          subst this
          exact ⟨_, _, rfl, ⟨by rw [sz_eq]; exact hz, rfl⟩, q _ (.int _)⟩
        · cases e
      · split at e
        · rename_i hz
          cases e
          have := r.byt
          subst this
          exact ⟨_, _, rfl, ⟨by rw [sz_eq]; exact hz, rfl⟩, q _ (.int _)⟩
        · cases e
      · cases e
  · cases e
def fList : List W → Option OR
  | [w] => (seqOf w).map .newl
  | _ => none
theorem cm_list : CallM X (.type "list") fList := by
  refine ⟨_, call_list_of, fun io M H ws vs z Q rx e q => ?_⟩
  unfold fList at e
  split at e
  · obtain ⟨v, rfl, r⟩ := p1 rx
    obtain ⟨ws, hs, rfl⟩ := Option.map_eq_some_iff.mp e
    obtain ⟨a, us, rfl, h, r2⟩ := r.seq (seqOf_some hs)
    exact ⟨a, us, rfl, h, fun l hl => q l us hl r2⟩
  · cases e
def fTuple : List W → Option OR
  | [.lst ws] => some (.newt ws)
  | [.frl ws] => some (.newt ws)
  | [.tup ws] => some (.imm (.tup ws))
  | _ => none
theorem cm_tuple : CallM X (.type "tuple") fTuple := by
  refine ⟨_, call_tuple_of, fun io M H ws vs z Q rx e q => ?_⟩
  unfold fTuple at e
  split at e
  · obtain ⟨v, rfl, r⟩ := p1 rx
    cases e
    obtain ⟨a, us, rfl, h, r2⟩ := r.lst
    exact ⟨a, us, rfl, .inl ⟨SqL.of h, fun l hl => q l us hl r2⟩⟩
  · obtain ⟨v, rfl, r⟩ := p1 rx
    cases e
    obtain ⟨a, us, rfl, h, r2⟩ := r.frl
    exact ⟨a, us, rfl, .inl ⟨h, fun l hl => q l us hl r2⟩⟩
  · obtain ⟨v, rfl, r⟩ := p1 rx
    cases e
    have rw := r.tupRw
    obtain ⟨a, us, rfl, h, r2⟩ := r.tup
    exact ⟨a, us, rfl, .inr ⟨h, q _ rw⟩⟩
  · cases e
def fInt1 : List W → Option OR
  | [.int i] => some (.imm (.int i))
  | [.bl b] => some (.imm (.int (if b then 1 else 0)))
  | _ => none
theorem cm_int : CallM X (.type "int") fInt1 := by
  refine ⟨_, call_int1, fun io M H ws vs z Q rx e q => ?_⟩
  unfold fInt1 at e
  split at e
  · obtain ⟨v, rfl, r⟩ := p1 rx
    cases e
    have := r.int
    subst this
    exact .inl ⟨_, rfl, q _ (.int _)⟩
  · obtain ⟨v, rfl, r⟩ := p1 rx
    cases e
    have := r.bl
    subst this
    exact .inr ⟨_, rfl, q _ (.int _)⟩
  · cases e
def blsOf : List W → Option (List Bool)
  | [] => some []
  | .bl b :: ws => (blsOf ws).map (b :: ·)
  | _ => none
def intsOf : List W → Option (List Int)
  | [] => some []
  | .int b :: ws => (intsOf ws).map (b :: ·)
  | _ => none
theorem blsOf_ok {K : PySem.W.Frag} {mg : Str → Option Value} {io : List Addr} {M : Addr → Prop} {H : Hp} : ∀ {ws : List W} {vs : List V} {bs : List Bool}, Rws K mg io M H ws vs → blsOf ws = some bs → vs = bs.map V.bl
  | [], vs, bs, h, e => by
    rw [h.nil_inv]
    simp only [blsOf, Option.some.injEq] at e
    subst e
    rfl
  | w :: ws, vs, bs, h, e => by
    obtain ⟨v, r, rfl, h1, h2⟩ := h.cons_inv
    cases w <;> simp only [blsOf, Option.map_eq_some_iff, reduceCtorEq] at e
    obtain ⟨bs', e1, rfl⟩ := e
    cases h1
    rw [blsOf_ok h2 e1]
    rfl
theorem intsOf_ok {K : PySem.W.Frag} {mg : Str → Option Value} {io : List Addr} {M : Addr → Prop} {H : Hp} : ∀ {ws : List W} {vs : List V} {bs : List Int}, Rws K mg io M H ws vs → intsOf ws = some bs → vs = bs.map V.int
  | [], vs, bs, h, e => by
    rw [h.nil_inv]
    simp only [intsOf, Option.some.injEq] at e
    subst e
    rfl
  | w :: ws, vs, bs, h, e => by
    obtain ⟨v, r, rfl, h1, h2⟩ := h.cons_inv
    cases w <;> simp only [intsOf, Option.map_eq_some_iff, reduceCtorEq] at e
    obtain ⟨bs', e1, rfl⟩ := e
    cases h1
    rw [intsOf_ok h2 e1]
    rfl
def fAll : List W → Option OR
  | [.lst ws] => (blsOf ws).map fun bs => .imm (.bl (bs.all id))
  | _ => none
theorem cm_all (hc : X.calm = true := by rfl) : CallM X (.builtin "all") fAll := by
  refine ⟨_, cr_all hc, fun io M H ws vs z Q rx e q => ?_⟩
  unfold fAll at e
  split at e
  · obtain ⟨v, rfl, r⟩ := p1 rx
    obtain ⟨bs, e1, rfl⟩ := Option.map_eq_some_iff.mp e
    obtain ⟨a, us, rfl, h, r2⟩ := r.lst
    have := blsOf_ok r2 e1
    subst this
    exact ⟨a, bs, rfl, SqL.of h, q _ (.bl _)⟩
  · cases e
def fAny : List W → Option OR
  | [.lst ws] => (blsOf ws).map fun bs => .imm (.bl (bs.any id))
  | _ => none
theorem cm_any (hc : X.calm = true := by rfl) : CallM X (.builtin "any") fAny := by
  refine ⟨_, cr_any hc, fun io M H ws vs z Q rx e q => ?_⟩
  unfold fAny at e
  split at e
  · obtain ⟨v, rfl, r⟩ := p1 rx
    obtain ⟨bs, e1, rfl⟩ := Option.map_eq_some_iff.mp e
    obtain ⟨a, us, rfl, h, r2⟩ := r.lst
    have := blsOf_ok r2 e1
    subst this
    exact ⟨a, bs, rfl, SqL.of h, q _ (.bl _)⟩
  · cases e
def fSum : List W → Option OR
  | [.lst ws] => (intsOf ws).map fun bs => .imm (.int bs.sum)
  | _ => none
theorem cm_sum (hc : X.calm = true := by rfl) : CallM X (.builtin "sum") fSum := by
  refine ⟨_, cr_sum hc, fun io M H ws vs z Q rx e q => ?_⟩
  unfold fSum at e
  split at e
  · obtain ⟨v, rfl, r⟩ := p1 rx
    obtain ⟨bs, e1, rfl⟩ := Option.map_eq_some_iff.mp e
    obtain ⟨a, us, rfl, h, r2⟩ := r.lst
    have := intsOf_ok r2 e1
    subst this
    exact ⟨a, bs, rfl, SqL.of h, q _ (.int _)⟩
  · cases e
end
section
variable {X : Cx} {ea : EA} {Wx : WX} {e : Expr} {es : List Expr} {m : Mo RV} {ms : Mo (List RV)} {pos p : Pos}
theorem pea_nil : Pea X ea Wx [] mNil := ⟨_, pa_nil, ref_nil⟩
theorem pea_cons (ha : Pee X ea Wx e m) (hr : Pea X ea Wx es ms) (hs : starEach (e :: es) X.env = (false, eval e X.env) :: starEach es X.env := by rfl) : Pea X ea Wx (e :: es) (mCons m ms) :=
  let ⟨_, p, r⟩ := ha.ex; let ⟨_, p', r'⟩ := hr.ex; ⟨_, pa_cons p p' hs, ref_cons r r'⟩
theorem pee_tup {x1} (h : Pea X ea Wx es ms) : Pee X ea Wx (.Tuple es x1 pos) (mTup ms) := let ⟨_, p, r⟩ := h.ex; ⟨_, pe_tup p, ref_tup r⟩
theorem pee_lst (h : Pea X ea Wx es ms) : Pee X ea Wx (.List es pos) (mLst ms) := let ⟨_, p, r⟩ := h.ex; ⟨_, pe_lst p, ref_lst r⟩
theorem pee_cb {f : List W → Option OR} {id : String} {x : Str} (hc : CallM X (.builtin id) f) (hm : X.mg x = none) (ha : Pea X ea Wx (e :: es) ms) (hg : Gl X x := by rfl) (hv : bootBuiltins x = some (.builtin id) := by decide +kernel) (hn : x ≠ "__name__" := by decide) (hdb : (x == ("__debug__" : Str)) = false := by decide)
    (he : starEach (e :: es) X.env = (false, eval e X.env) :: starEach es X.env := by rfl) (hpl : (backTo pos (starEach es X.env)).any (·.1) = false := by rfl) : Pee X ea Wx (.Call (.Name x p) (e :: es) [] pos) (mCB f ms) :=
  let ⟨_, p, r⟩ := ha.ex; let ⟨_, h1, h2⟩ := hc; ⟨_, pe_callB h1 hg hm hv p hn hdb he hpl, ref_cb h2 r⟩
theorem pee_ct {f : List W → Option OR} {T : String} {x : Str} (hc : CallM X (.type T) f) (hm : X.mg x = none) (ha : Pea X ea Wx (e :: es) ms) (hg : Gl X x := by rfl) (hv : bootBuiltins x = some (.type T) := by decide +kernel) (hn : x ≠ "__name__" := by decide) (hdb : (x == ("__debug__" : Str)) = false := by decide)
    (he : starEach (e :: es) X.env = (false, eval e X.env) :: starEach es X.env := by rfl) (hpl : (backTo pos (starEach es X.env)).any (·.1) = false := by rfl) : Pee X ea Wx (.Call (.Name x p) (e :: es) [] pos) (mCB f ms) :=
  let ⟨_, p, r⟩ := ha.ex; let ⟨_, h1, h2⟩ := hc; ⟨_, pe_callTy h1 hg hm hv p hn hdb he hpl, ref_cb h2 r⟩
end
end Z
set_option Elab.async false
set_option linter.all false
set_option maxRecDepth 100000
namespace Z
open PySem PySem.Spec PyProof.Rows L2
section
variable {K : PySem.W.Frag} {mg : Str → Option Value} {ea : EA} {io io' : List Addr} {Fr Fr' : Addr → Prop} {s s' s2 : S} {σ σ' : L2.St} {H H' : Hp} {w : W} {v : V} {c : Cell} {o : HO} {a p : Addr}
theorem Sim.sub {r' : List SV} (x : Sim K mg ea io Fr s σ H) (hl : r'.length = σ'.length) (h : ∀ i : Nat, (r'[i]? = s.r[i]? ∧ σ'[i]? = σ[i]?) ∨ r'[i]? = some .non ∨ r'[i]? = none) : Sim K mg ea io Fr { s with r := r' } σ' H ∧ (∀ b, Ms io Fr { s with r := r' } σ' b → Ms io Fr s σ b) := by
  have fo : ∀ b, FrO Fr r' σ' b → FrO Fr s.r σ b := fun b z => z.imp id fun ⟨i, c, h1, h2⟩ => by
    rcases h i with ⟨q1, q2⟩ | q | q
    · exact ⟨i, c, by rw [← q1]; exact h1, by rw [← q2]; exact h2⟩
    · rw [h1] at q; cases q
    · rw [h1] at q; cases q
  have le : ∀ b, Ms io Fr { s with r := r' } σ' b → Ms io Fr s σ b := fun b z => z.imp id (fo b)
  refine ⟨⟨hl, x.g.less fo, fun i w e => ?_, fun i c e => ?_, fun i j c d b e1 e2 e3 e4 => ?_, fun i y e => ?_⟩, le⟩
  · rcases h i with ⟨q1, q2⟩ | q | q
    · obtain ⟨v, h1, h2⟩ := x.val i w (by rw [← q1]; exact e)
      exact ⟨v, by rw [q2]; exact h1, h2.pers (.less le)⟩
    · rw [show r'[i]? = some (.val w) from e] at q; cases q
    · rw [show r'[i]? = some (.val w) from e] at q; cases q
  · rcases h i with ⟨q1, q2⟩ | q | q
    · obtain ⟨b, o, h1, h2, h3, h4⟩ := x.own i c (by rw [← q1]; exact e)
      exact ⟨b, o, by rw [q2]; exact h1, h2, h3.pers (.less le), h4⟩
    · rw [show r'[i]? = some (.own c) from e] at q; cases q
    · rw [show r'[i]? = some (.own c) from e] at q; cases q
  · rcases h i with ⟨q1, q2⟩ | q | q
    · rcases h j with ⟨q3, q4⟩ | q | q
      · exact x.dist i j c d b (by rw [← q1]; exact e1) (by rw [← q3]; exact e2) (by rw [← q2]; exact e3) (by rw [← q4]; exact e4)
      · rw [show r'[j]? = some (.own d) from e2] at q; cases q
      · rw [show r'[j]? = some (.own d) from e2] at q; cases q
    · rw [show r'[i]? = some (.own c) from e1] at q; cases q
    · rw [show r'[i]? = some (.own c) from e1] at q; cases q
  · rcases h i with ⟨q1, q2⟩ | q | q
    · obtain ⟨h1, h2⟩ := x.exc i y (by rw [← q1]; exact e)
      exact ⟨by rw [q2]; exact h1, h2.pers (.less le)⟩
    · rw [show r'[i]? = some (.exc y) from e] at q; cases q
    · rw [show r'[i]? = some (.exc y) from e] at q; cases q
theorem Sim.drop1 {i : Nat} {u : Option V} (x : Sim K mg ea io Fr s σ H) : Sim K mg ea io Fr { s with r := s.r.set i .non } (σ.set i u) H ∧ (∀ b, Ms io Fr { s with r := s.r.set i .non } (σ.set i u) b → Ms io Fr s σ b) := by
  refine x.sub (by simp [x.len]) fun j => ?_
  by_cases e : i = j
  · subst e
    rcases Nat.lt_or_ge i s.r.length with q | q
    · exact .inr (.inl (List.getElem?_set_self q))
    · exact .inr (.inr (List.getElem?_eq_none (by simpa using q)))
  · exact .inl ⟨List.getElem?_set_ne e, List.getElem?_set_ne e⟩
theorem Sim.setVal {i : Nat} (x : Sim K mg ea io Fr s σ H) (h : Rw K mg io (Ms io Fr s σ) H w v) : Sim K mg ea io Fr { s with r := s.r.set i (.val w) } (σ.set i (some v)) H ∧ (∀ b, Ms io Fr { s with r := s.r.set i (.val w) } (σ.set i (some v)) b → Ms io Fr s σ b) := by
  have fo : ∀ b, FrO Fr (s.r.set i (.val w)) (σ.set i (some v)) b → FrO Fr s.r σ b := fun b z => z.imp id fun ⟨j, c, h1, h2⟩ => by
    by_cases e : i = j
    · subst e
      have := get_lt h1
      rw [List.getElem?_set_self (by simpa using this)] at h1
      cases h1
    · rw [List.getElem?_set_ne e] at h1 h2
      exact ⟨j, c, h1, h2⟩
  have le : ∀ b, Ms io Fr { s with r := s.r.set i (.val w) } (σ.set i (some v)) b → Ms io Fr s σ b := fun b z => z.imp id (fo b)
  refine ⟨⟨by simp [x.len], x.g.less fo, fun j u e => ?_, fun j c e => ?_, fun j k c d b e1 e2 e3 e4 => ?_, fun j y e => ?_⟩, le⟩
  · by_cases ij : i = j
    · subst ij
      have hi := get_lt e
      simp only [List.length_set] at hi
      rw [List.getElem?_set_self hi] at e
      cases e
      exact ⟨v, List.getElem?_set_self (by rw [← x.len]; exact hi), h.pers (.less le)⟩
    · rw [List.getElem?_set_ne ij] at e
      obtain ⟨y, h1, h2⟩ := x.val j u e
      exact ⟨y, by rw [List.getElem?_set_ne ij]; exact h1, h2.pers (.less le)⟩
  · by_cases ij : i = j
    · subst ij
      have hi := get_lt e
      simp only [List.length_set] at hi
      rw [List.getElem?_set_self hi] at e
      cases e
    · rw [List.getElem?_set_ne ij] at e
      obtain ⟨b, o, h1, h2, h3, h4⟩ := x.own j c e
      exact ⟨b, o, by rw [List.getElem?_set_ne ij]; exact h1, h2, h3.pers (.less le), h4⟩
  · by_cases ij : i = j
    · subst ij
      have hi := get_lt e1
      simp only [List.length_set] at hi
      rw [List.getElem?_set_self hi] at e1
      cases e1
    · by_cases ik : i = k
      · subst ik
        have hi := get_lt e2
        simp only [List.length_set] at hi
        rw [List.getElem?_set_self hi] at e2
        cases e2
      · rw [List.getElem?_set_ne ij] at e1 e3
        rw [List.getElem?_set_ne ik] at e2 e4
        exact x.dist j k c d b e1 e2 e3 e4
  · by_cases ij : i = j
    · subst ij
      have hi := get_lt e
      simp only [List.length_set] at hi
      rw [List.getElem?_set_self hi] at e
      cases e
    · rw [List.getElem?_set_ne ij] at e ⊢
      obtain ⟨h1, h2⟩ := x.exc j y e
      exact ⟨h1, h2.pers (.less le)⟩
theorem Sim.setOwn {i : Nat} (x : Sim K mg ea io (pls Fr a) s σ H) (ha : H a = some o) (nf : ¬ FrO Fr s.r σ a) (h : Rc K mg io (Ms io (pls Fr a) s σ) H c o) :
    Sim K mg ea io Fr { s with r := s.r.set i (.own c) } (σ.set i (some (V.ref a))) H ∧ (∀ b, Ms io Fr { s with r := s.r.set i (.own c) } (σ.set i (some (V.ref a))) b → Ms io (pls Fr a) s σ b) := by
  have fo : ∀ b, FrO Fr (s.r.set i (.own c)) (σ.set i (some (V.ref a))) b → FrO (pls Fr a) s.r σ b := fun b z => by
    rcases z with z | ⟨j, d, h1, h2⟩
    · exact .inl (.inl z)
    · by_cases e : i = j
      · subst e
        have hi := get_lt h2
        simp only [List.length_set] at hi
        rw [List.getElem?_set_self hi] at h2
        cases h2
        exact .inl (.inr rfl)
      · rw [List.getElem?_set_ne e] at h1 h2
        exact .inr ⟨j, d, h1, h2⟩
  have le : ∀ b, Ms io Fr { s with r := s.r.set i (.own c) } (σ.set i (some (V.ref a))) b → Ms io (pls Fr a) s σ b := fun b z => z.imp id (fo b)
  have nF : ¬ Fr a := fun z => nf (.inl z)
  have nO : ∀ (j : Nat) d, s.r[j]? = some (.own d) → σ[j]? = some (some (V.ref a)) → False := fun j d h1 h2 => nf (.inr ⟨j, d, h1, h2⟩)
  refine ⟨⟨by simp [x.len], x.g.less fo, fun j u e => ?_, fun j d e => ?_, fun j k d d' b e1 e2 e3 e4 => ?_, fun j y e => ?_⟩, le⟩
  · by_cases ij : i = j
    · subst ij
      have hi := get_lt e
      simp only [List.length_set] at hi
      rw [List.getElem?_set_self hi] at e
      cases e
    · rw [List.getElem?_set_ne ij] at e
      obtain ⟨y, h1, h2⟩ := x.val j u e
      exact ⟨y, by rw [List.getElem?_set_ne ij]; exact h1, h2.pers (.less le)⟩
  · by_cases ij : i = j
    · subst ij
      have hi := get_lt e
      simp only [List.length_set] at hi
      rw [List.getElem?_set_self hi] at e
      cases e
      exact ⟨a, o, List.getElem?_set_self (by rw [← x.len]; exact hi), ha, h.pers (.less le), nF⟩
    · rw [List.getElem?_set_ne ij] at e
      obtain ⟨b, o, h1, h2, h3, h4⟩ := x.own j d e
      exact ⟨b, o, by rw [List.getElem?_set_ne ij]; exact h1, h2, h3.pers (.less le), fun z => h4 (.inl z)⟩
  · by_cases ij : i = j
    · subst ij
      by_cases ik : i = k
      · exact ik
      · have hi := get_lt e3
        simp only [List.length_set] at hi
        rw [List.getElem?_set_self hi] at e3
        cases e3
        rw [List.getElem?_set_ne ik] at e2 e4
        exact (nO k d' e2 e4).elim
    · by_cases ik : i = k
      · subst ik
        have hi := get_lt e4
        simp only [List.length_set] at hi
        rw [List.getElem?_set_self hi] at e4
        cases e4
        rw [List.getElem?_set_ne ij] at e1 e3
        exact (nO j d e1 e3).elim
      · rw [List.getElem?_set_ne ij] at e1 e3
        rw [List.getElem?_set_ne ik] at e2 e4
        exact x.dist j k d d' b e1 e2 e3 e4
  · by_cases ij : i = j
    · subst ij
      have hi := get_lt e
      simp only [List.length_set] at hi
      rw [List.getElem?_set_self hi] at e
      cases e
    · rw [List.getElem?_set_ne ij] at e ⊢
      obtain ⟨h1, h2⟩ := x.exc j y e
      exact ⟨h1, h2.pers (.less le)⟩
def setM (i : Nat) (x : SV) : Mo Fl := fun s => some (.ok .nx, { s with r := s.r.set i x })
def land : RV → Mo SV
  | .val w => ret (.val w)
  | .own c => ret (.own c)
  | .hnd j => bnd (freeze (.hnd j)) fun w => ret (.val w)
def mAsg (i : Nat) (m : Mo RV) : Mo Fl := bnd m fun x => bnd (land x) fun y => setM i y
variable {Wx : WX}
theorem PostF.trans {M M1 : Addr → Prop} {G' : List Cell} {io1 : List Addr} {H1 : Hp} {f : FV} (T : Stp io M Fr H io1 M1 H1) (p : PostF K mg io1 M1 Fr H1 G' io' H' f v) : PostF K mg io M Fr H G' io' H' f v := by
  cases f with
  | val w => exact ⟨p.1, T.trans p.2.1, p.2.2⟩
  | own c =>
    obtain ⟨a, o, h1, h2, h3, h4, h5, h6⟩ := p
    exact ⟨a, o, h1, h2, h3, h4, T.trans h5, h6⟩
theorem ref_asg {te : TE} {m : Mo RV} (i : Nat) (h : RefE K mg ea Wx te m) : RefS K mg ea Wx (tAsg te (gName i)) (mAsg i m) := by
  intro σ H io Fr s S0 r0 s' e D hnx hbk hct hrt hex
  refine one2 h S0 e (fun x q cls d H' io' px => hex x q cls d σ H' io' px) fun x v s1 H1 io1 e2 px => ?_
  cases x with
  | val w =>
    obtain ⟨S1, T1, R1⟩ := px
    obtain ⟨S2, l2⟩ := S1.setVal (i := i) R1
    cases e2
    exact hnx rfl _ _ _ ⟨S2, T1.less l2⟩
  | own c =>
    obtain ⟨a, o, rfl, ha, nf, S1, T1, R1⟩ := px
    obtain ⟨S2, l2⟩ := S1.setOwn (i := i) ha nf R1
    cases e2
    exact hnx rfl _ _ _ ⟨S2, T1.less l2⟩
  | hnd j =>
    obtain ⟨S1, T1, R1⟩ := px
    rcases bnd_some e2 with ⟨z, e3, rfl⟩ | ⟨y, s3, e3, e4⟩
    · rcases bnd_some e3 with ⟨z', e5, _⟩ | ⟨w', s5, e5, e6⟩
      · obtain ⟨_, _, _, _, q, _⟩ := freeze_ok S1 (x := .hnd j) (v := v) R1 e5
        cases q
      · cases e6
    · rcases bnd_some e3 with ⟨z', e5, q⟩ | ⟨w', s5, e5, e6⟩
      · cases q
      · obtain ⟨g, l, S5, w2, q, R5⟩ := freeze_ok S1 (x := .hnd j) (v := v) R1 e5
        cases q
        cases e6
        obtain ⟨S2, l2⟩ := S5.setVal (i := i) R5
        cases e4
        exact hnx rfl _ _ _ ⟨S2, T1.less fun b z => l b (l2 b z)⟩
def mSeq (a b : Mo Fl) : Mo Fl := bnd a fun f => match f with
  | .nx => b
  | f => ret f
def mNext : Mo Fl := ret .nx
theorem ref_next : RefS K mg ea Wx tNext mNext := by
  intro σ H io Fr s S0 r0 s' e D hnx hbk hct hrt hex
  cases e
  exact hnx rfl _ _ _ ⟨S0, .refl⟩
theorem ref_seq {t u : TS} {a b : Mo Fl} (h : RefS K mg ea Wx t a) (h' : RefS K mg ea Wx u b) : RefS K mg ea Wx (tSeq t u) (mSeq a b) := by
  intro σ H io Fr s S0 r0 s' e D hnx hbk hct hrt hex
  rcases bnd_some e with ⟨x, e1, rfl⟩ | ⟨f, s1, e1, e2⟩
  · exact h σ H io Fr s S0 _ _ e1 _ (fun q => by cases q) (fun q => by cases q) (fun q => by cases q) (fun _ q => by cases q) fun x' q cls d σ' H' io' px => by
      cases q
      exact hex _ rfl cls d σ' H' io' px
  · cases f with
    | nx =>
      refine h σ H io Fr s S0 _ _ e1 _ (fun q σ1 H1 io1 px => ?_) (fun q => by cases q) (fun q => by cases q) (fun _ q => by cases q) (fun _ q => by cases q)
      exact h' σ1 H1 io1 Fr s1 px.1 _ _ e2 D (fun q σ2 H2 io2 py => hnx q σ2 H2 io2 ⟨py.1, px.2.trans py.2⟩) (fun q σ2 H2 io2 py => hbk q σ2 H2 io2 ⟨py.1, px.2.trans py.2⟩) (fun q σ2 H2 io2 py => hct q σ2 H2 io2 ⟨py.1, px.2.trans py.2⟩)
        (fun f q v H2 io2 py => hrt f q v H2 io2 (py.trans px.2)) fun x q cls d σ2 H2 io2 py => hex x q cls d σ2 H2 io2 ⟨py.1, px.2.trans py.2.1, py.2.2⟩
    | bk =>
      cases e2
      exact h σ H io Fr s S0 _ _ e1 _ (fun q => by cases q) hbk (fun q => by cases q) (fun _ q => by cases q) (fun _ q => by cases q)
    | ct =>
      cases e2
      exact h σ H io Fr s S0 _ _ e1 _ (fun q => by cases q) (fun q => by cases q) hct (fun _ q => by cases q) (fun _ q => by cases q)
    | rt f =>
      cases e2
      exact h σ H io Fr s S0 _ _ e1 _ (fun q => by cases q) (fun q => by cases q) (fun q => by cases q) hrt (fun _ q => by cases q)
def mDrop (m : Mo RV) : Mo Fl := bnd m fun _ => ret .nx
theorem ref_drop {te : TE} {m : Mo RV} (h : RefE K mg ea Wx te m) : RefS K mg ea Wx (tDrop te) (mDrop m) := by
  intro σ H io Fr s S0 r0 s' e D hnx hbk hct hrt hex
  refine one2 h S0 e (fun x q cls d H' io' px => hex x q cls d σ H' io' px) fun x v s1 H1 io1 e2 px => ?_
  cases e2
  obtain ⟨S1, T1, _⟩ := px.settled
  exact hnx rfl _ _ _ ⟨S1, T1⟩
def retM : RV → Mo Fl
  | .val w => ret (.rt (.val w))
  | .own c => ret (.rt (.own c))
  | .hnd i => fun s => match s.r[i]? with
    | some (.own c) => some (.ok (.rt (.own c)), s)
    | some (.val w) => some (.ok (.rt (.val w)), s)
    | _ => none
def mRet (m : Mo RV) : Mo Fl := bnd m retM
theorem PostF.ofVal (S1 : Sim K mg ea io' Fr s2 σ H') {M : Addr → Prop} (T : Stp io M Fr H io' (Ms io' Fr s2 σ) H') (R : Rw K mg io' (Ms io' Fr s2 σ) H' w v) : PostF K mg io M Fr H s2.G io' H' (.val w) v := by
  have le : ∀ b, Mu io' Fr b → Ms io' Fr s2 σ b := fun b z => z.imp id .inl
  exact ⟨S1.g.less (s := s2) fun b z => .inl z, T.less le, R.pers (.less le)⟩
theorem ref_ret {te : TE} {m : Mo RV} (h : RefE K mg ea Wx te m) : RefS K mg ea Wx (tRet te) (mRet m) := by
  intro σ H io Fr s S0 r0 s' e D hnx hbk hct hrt hex
  refine one2 h S0 e (fun x q cls d H' io' px => hex x q cls d σ H' io' px) fun x v s1 H1 io1 e2 px => ?_
  cases x with
  | val w =>
    obtain ⟨S1, T1, R1⟩ := px
    cases e2
    exact hrt _ rfl _ _ _ (.ofVal S1 T1 R1)
  | own c =>
    obtain ⟨a, o, rfl, ha, nf, S1, T1, R1⟩ := px
    have le : ∀ b, Mu io1 (pls Fr a) b → Ms io1 (pls Fr a) s1 σ b := fun b z => z.imp id .inl
    have g1 := S1.g.less (s := s1) (Fr' := pls Fr a) fun b z => .inl z
    have T2 := T1.less le
    have R2 := R1.pers (.less le)
    cases e2
    exact hrt _ rfl _ _ _ ⟨a, o, rfl, ha, fun z => nf (.inl z), g1, T2, R2⟩
  | hnd i =>
    obtain ⟨S1, T1, R1⟩ := px
    simp only [retM] at e2
    split at e2
    · rename_i c q
      obtain ⟨a, o, q1, q2, q3, q4⟩ := S1.own i c q
      rw [R1] at q1
      cases q1
      have fo : ∀ b, pls Fr a b → FrO Fr s1.r σ b := fun b z => by
        rcases z with z | z
        · exact .inl z
        · exact .inr ⟨i, c, q, by rw [z]; exact R1⟩
      have le : ∀ b, Mu io1 (pls Fr a) b → Ms io1 Fr s1 σ b := fun b z => z.imp id (fo b)
      have g1 := S1.g.less (s := s1) fo
      have T2 := T1.less le
      have R2 := q3.pers (.less le)
      cases e2
      exact hrt _ rfl _ _ _ ⟨a, o, rfl, q2, q4, g1, T2, R2⟩
    · rename_i w q
      obtain ⟨u, q1, q2⟩ := S1.val i w q
      rw [R1] at q1
      cases q1
      cases e2
      exact hrt _ rfl _ _ _ (.ofVal S1 T1 q2)
    · cases e2
def mIf (c : Mo Bool) (a b : Mo Fl) : Mo Fl := bnd c fun x => if x = true then a else b
theorem ref_if {c : TT} {mc : Mo Bool} {t u : TS} {a b : Mo Fl} (hc : RefT K mg ea Wx c mc) (h : RefS K mg ea Wx t a) (h' : RefS K mg ea Wx u b) : RefS K mg ea Wx (tIfS c t u) (mIf mc a b) := by
  intro σ H io Fr s S0 r0 s' e D hnx hbk hct hrt hex
  refine tst2 hc S0 e (fun x q cls d H' io' px => hex x q cls d σ H' io' px) fun k s1 H1 io1 e2 px => ?_
  have go : ∀ {t : TS} {a : Mo Fl}, RefS K mg ea Wx t a → a s1 = some (r0, s') → t D σ H1 := fun {t a} h e2 =>
    h σ H1 io1 Fr s1 px.1 _ _ e2 D (fun q σ2 H2 io2 py => hnx q σ2 H2 io2 ⟨py.1, px.2.trans py.2⟩) (fun q σ2 H2 io2 py => hbk q σ2 H2 io2 ⟨py.1, px.2.trans py.2⟩) (fun q σ2 H2 io2 py => hct q σ2 H2 io2 ⟨py.1, px.2.trans py.2⟩)
        (fun f q v H2 io2 py => hrt f q v H2 io2 (py.trans px.2)) fun x q cls d σ2 H2 io2 py => hex x q cls d σ2 H2 io2 ⟨py.1, px.2.trans py.2.1, py.2.2⟩
  cases k with
  | true => exact go h e2
  | false => exact go h' e2
def mIfE (c : Mo Bool) (a b : Mo RV) : Mo RV := bnd c fun x => if x = true then a else b
theorem PostE.trans {io1 : List Addr} {H1 : Hp} {s1 : S} {x : RV} (T : Stp io (Ms io Fr s σ) Fr H io1 (Ms io1 Fr s1 σ) H1) (p : PostE K mg ea io1 Fr s1 σ H1 s' io' H' x v) : PostE K mg ea io Fr s σ H s' io' H' x v := by
  cases x with
  | val w => exact ⟨p.1, T.trans p.2.1, p.2.2⟩
  | hnd i => exact ⟨p.1, T.trans p.2.1, p.2.2⟩
  | own c =>
    obtain ⟨a, o, h1, h2, h3, h4, h5, h6⟩ := p
    exact ⟨a, o, h1, h2, h3, h4, T.trans h5, h6⟩
theorem ref_ife {c : TT} {mc : Mo Bool} {t u : TE} {a b : Mo RV} (hc : RefT K mg ea Wx c mc) (h : RefE K mg ea Wx t a) (h' : RefE K mg ea Wx u b) : RefE K mg ea Wx (tIf c t u) (mIfE mc a b) := by
  intro σ H io Fr s S0 r0 s' e Q hok hex
  refine tst2 hc S0 e hex fun k s1 H1 io1 e2 px => ?_
  cases k with
  | true => exact h σ H1 io1 Fr s1 px.1 _ _ e2 Q (fun x q v H2 io2 py => hok x q v H2 io2 (py.trans px.2)) fun x q cls d H2 io2 py => hex x q cls d H2 io2 ⟨py.1, px.2.trans py.2.1, py.2.2⟩
  | false => exact h' σ H1 io1 Fr s1 px.1 _ _ e2 Q (fun x q v H2 io2 py => hok x q v H2 io2 (py.trans px.2)) fun x q cls d H2 io2 py => hex x q cls d H2 io2 ⟨py.1, px.2.trans py.2.1, py.2.2⟩
def mAndV (a b : Mo RV) : Mo RV := bnd (mB a) fun x => if x = true then b else ret (.val (.bl false))
def mNotV (a : Mo RV) : Mo RV := bnd (mB a) fun x => ret (.val (.bl (!x)))
theorem ref_andV {t u : TE} {a b : Mo RV} (h : RefE K mg ea Wx t a) (h' : RefE K mg ea Wx u b) : RefE K mg ea Wx (tAndV t u) (mAndV a b) := by
  intro σ H io Fr s S0 r0 s' e Q hok hex
  refine tst2 (ref_test h) S0 e hex fun k s1 H1 io1 e2 px => ?_
  cases k with
  | true => exact h' σ H1 io1 Fr s1 px.1 _ _ e2 Q (fun x q v H2 io2 py => hok x q v H2 io2 (py.trans px.2)) fun x q cls d H2 io2 py => hex x q cls d H2 io2 ⟨py.1, px.2.trans py.2.1, py.2.2⟩
  | false => cases e2; exact hok _ rfl _ _ _ ⟨px.1, px.2, .bl _⟩
theorem ref_notV {t : TE} {a : Mo RV} (h : RefE K mg ea Wx t a) : RefE K mg ea Wx (tNotV t) (mNotV a) := by
  intro σ H io Fr s S0 r0 s' e Q hok hex
  refine tst2 (ref_test h) S0 e hex fun k s1 H1 io1 e2 px => ?_
  cases e2
  exact hok _ rfl _ _ _ ⟨px.1, px.2, .bl _⟩
structure RefG (K : PySem.W.Frag) (mg : Str → Option Value) (ea : EA) (g : TG) (tg : W → Mo Unit) (vs : List Nat) : Prop where
  ne : ∀ w s r s', tg w s = some (r, s') → r = .ok ()
  go : ∀ (σ : L2.St) (H : Hp) (io : List Addr) (Fr : Addr → Prop) (s : S) (w : W) (v : V), Sim K mg ea io Fr s σ H → Rw K mg io (Ms io Fr s σ) H w v →
    ∀ r s', tg w s = some (r, s') → ∀ Q : L2.St → Hp → Prop, (∀ σ', Sim K mg ea io Fr s' σ' H → (∀ b, Ms io Fr s' σ' b → Ms io Fr s σ b) → σ'.length = σ.length → (∀ j, j ∉ vs → σ'[j]? = σ[j]?) → Q σ' H) → g v σ H Q
structure RefGs (K : PySem.W.Frag) (mg : Str → Option Value) (ea : EA) (g : TGs) (tg : List W → Mo Unit) (vs : List Nat) : Prop where
  ne : ∀ w s r s', tg w s = some (r, s') → r = .ok ()
  go : ∀ (σ : L2.St) (H : Hp) (io : List Addr) (Fr : Addr → Prop) (s : S) (ws : List W) (us : List V), Sim K mg ea io Fr s σ H → Rws K mg io (Ms io Fr s σ) H ws us →
    ∀ r s', tg ws s = some (r, s') → ∀ Q : L2.St → Hp → Prop, (∀ σ', Sim K mg ea io Fr s' σ' H → (∀ b, Ms io Fr s' σ' b → Ms io Fr s σ b) → σ'.length = σ.length → (∀ j, j ∉ vs → σ'[j]? = σ[j]?) → Q σ' H) → g us σ H Q
def tgN (i : Nat) (w : W) : Mo Unit := fun s => some (.ok (), { s with r := s.r.set i (.val w) })
def tgsNil : List W → Mo Unit
  | [] => ret ()
  | _ => stk
def tgsCons (t : W → Mo Unit) (u : List W → Mo Unit) : List W → Mo Unit
  | w :: ws => bnd (t w) fun _ => u ws
  | [] => stk
def tgT (n : Nat) (u : List W → Mo Unit) : W → Mo Unit
  | .tup ws => if ws.length = n then u ws else stk
  | _ => stk
theorem ref_tgN (i : Nat) : RefG K mg ea (gName i) (tgN i) [i] where
  ne := fun w s r s' e => by cases e; rfl
  go := by
    intro σ H io Fr s w v S0 R r s' e
    cases e
    intro Q hq
    obtain ⟨S1, l⟩ := S0.setVal (i := i) R
    exact hq _ S1 l (by simp) fun j hj => List.getElem?_set_ne fun z => hj (by simp [z])
theorem ref_tgsNil : RefGs K mg ea gNil tgsNil [] where
  ne := fun w s r s' e => by
    cases w with
    | nil => cases e; rfl
    | cons _ _ => cases e
  go := by
    intro σ H io Fr s ws vs S0 R r s' e
    cases ws with
    | nil => cases e; exact fun Q hq => ⟨R.nil_inv, hq σ S0 (fun _ z => z) rfl fun _ _ => rfl⟩
    | cons w ws => cases e
theorem ref_tgsCons {t : TG} {u : TGs} {tm : W → Mo Unit} {um : List W → Mo Unit} {l1 l2 : List Nat} (h : RefG K mg ea t tm l1) (h' : RefGs K mg ea u um l2) : RefGs K mg ea (gCons t u) (tgsCons tm um) (l1 ++ l2) where
  ne := fun w s r s' e => by
    cases w with
    | nil => cases e
    | cons w ws =>
      rcases bnd_some e with ⟨x, e1, rfl⟩ | ⟨_, s1, e1, e2⟩
      · have := h.ne _ _ _ _ e1
        cases this
      · exact h'.ne _ _ _ _ e2
  go := by
    intro σ H io Fr s ws vs S0 R r s' e
    cases ws with
    | nil => cases e
    | cons w ws =>
      intro Q hq
      obtain ⟨v, r', rfl, h1, h2⟩ := R.cons_inv
      refine ⟨v, r', rfl, ?_⟩
      rcases bnd_some e with ⟨x, e1, rfl⟩ | ⟨_, s1, e1, e2⟩
      · have := h.ne _ _ _ _ e1
        cases this
      · refine h.go σ H io Fr s w v S0 h1 _ _ e1 _ fun σ1 S1 l1 n1 k1 => ?_
        exact h'.go σ1 H io Fr s1 ws r' S1 (h2.pers (.less l1)) _ _ e2 Q fun σ2 S2 l2 n2 k2 => hq σ2 S2 (fun b z => l1 b (l2 b z)) (n2.trans n1) fun j hj => by
          simp only [List.mem_append, not_or] at hj
          exact (k2 j hj.2).trans (k1 j hj.1)
theorem ref_tgT {n : Nat} {u : TGs} {um : List W → Mo Unit} {l : List Nat} (h : RefGs K mg ea u um l) : RefG K mg ea (gTup K n u) (tgT n um) l where
  ne := fun w s r s' e => by
    unfold tgT at e
    split at e
    · split at e
      · exact h.ne _ _ _ _ e
      · cases e
    · cases e
  go := by
    intro σ H io Fr s w v S0 R r s' e Q hq
    unfold tgT at e
    split at e
    · rename_i ws
      split at e
      · rename_i hn
        obtain ⟨a, vs, rfl, ha, r2⟩ := Rn.tup (.inl R)
        exact ⟨a, vs, rfl, ha, by rw [← r2.1]; exact hn, h.go σ H io Fr s ws vs S0 r2 _ _ e Q hq⟩
      · cases e
    · cases e
def mAsgT (t : W → Mo Unit) (m : Mo RV) : Mo Fl := bnd m fun x => bnd (freeze (settle x)) fun w => bnd (t w) fun _ => ret .nx
theorem ref_asgT {te : TE} {g : TG} {m : Mo RV} {t : W → Mo Unit} {l : List Nat} (h : RefE K mg ea Wx te m) (hg : RefG K mg ea g t l) : RefS K mg ea Wx (tAsg te g) (mAsgT t m) := by
  intro σ H io Fr s S0 r0 s' e D hnx hbk hct hrt hex
  refine one2 h S0 e (fun x q cls d H' io' px => hex x q cls d σ H' io' px) fun x v s1 H1 io1 e2 px => ?_
  obtain ⟨S1, T1, R1⟩ := px.settled
  rcases bnd_some e2 with ⟨z, e3, _⟩ | ⟨w, s3, e3, e4⟩
  · obtain ⟨_, _, _, _, q, _⟩ := freeze_ok S1 R1 e3
    cases q
  · obtain ⟨_, l3, S3, w', q, R3⟩ := freeze_ok S1 R1 e3
    cases q
    rcases bnd_some e4 with ⟨z, e5, rfl⟩ | ⟨_, s5, e5, e6⟩
    · have := hg.ne _ _ _ _ e5
      cases this
    · refine hg.go σ H1 io1 Fr s3 _ v S3 R3 _ _ e5 _ fun σ2 S2 l2 _ _ => ?_
      cases e6
      exact hnx rfl σ2 H1 io1 ⟨S2, T1.less fun b z => l3 b (l2 b z)⟩
structure Wk where
  ws : List W
  on : Option Nat
def Wk.ok (k : Wk) (s : S) : Prop := match k.on with
  | none => True
  | some n => s.G[n]? = some (.lst k.ws)
noncomputable instance (k : Wk) (s : S) : Decidable (k.ok s) := Classical.propDecidable _
def Cn (K : PySem.W.Frag) (mg : Str → Option Value) (k : Wk) (io : List Addr) (M : Addr → Prop) (H : Hp) : Prop := match k.on with
  | none => True
  | some n => ∃ a vs, io[n]? = some a ∧ H a = some (.lst vs) ∧ Rws K mg io M H k.ws vs
theorem cn_of {k : Wk} (S0 : Sim K mg ea io Fr s σ H) (h : k.ok s) : Cn K mg k io (Ms io Fr s σ) H := by
  unfold Wk.ok at h
  unfold Cn
  split at h
  · trivial
  · rename_i n e
    have hn : n < io.length := by rw [S0.g.len]; exact get_lt h
    obtain ⟨o, ho, vs, rfl, r⟩ := S0.g.cell n io[n] _ (by simp [hn]) h
    exact ⟨_, vs, by simp [hn], ho, r⟩
structure ItG (K : PySem.W.Frag) (mg : Str → Option Value) (J : It) (k : Wk) (io : List Addr) (M : Addr → Prop) (H : Hp) : Prop where
  go : ∀ io' M' H', Pers io M H io' M' H' → Cn K mg k io' M' H' → ∀ i, i < k.ws.length → J.go i H'
  stop : ∀ io' M' H', Pers io M H io' M' H' → Cn K mg k io' M' H' → J.stop k.ws.length H'
  yld : ∀ io' M' H', Pers io M H io' M' H' → Cn K mg k io' M' H' → (∀ a, M' a → ∃ o, H' a = some o ∧ Nt o) → ∀ i x H2, J.yld i H' x H2 → ∀ w, k.ws[i]? = some w → (H2 = H' ∧ Rw K mg io' M' H' w x) ∨ ∃ p us ws', H' p = none ∧ x = .ref p ∧ w = .tup ws' ∧ H2 = upd H' p (.tup us) ∧ Rws K mg io' M' H' ws' us
def RefI (K : PySem.W.Frag) (mg : Str → Option Value) (ea : EA) (Wx : WX) (wi : TI) (m : Mo Wk) : Prop := ∀ (σ : L2.St) (H : Hp) (io : List Addr) (Fr : Addr → Prop) (s : S), Sim K mg ea io Fr s σ H → ∀ r s', m s = some (r, s') → ∀ R : It → Hp → Prop,
  (∀ k, r = .ok k → ∀ J H' io', PostS K mg ea io Fr s σ H s' σ io' H' → ItG K mg J k io' (Ms io' Fr s' σ) H' → R J H') → (∀ x, r = .error x → ∀ cls d H' io', PostX K mg ea io Fr s σ H s' σ io' H' x cls d → Wx cls d σ H') → wi σ H R
noncomputable def forL (k : Wk) : List W → (W → Mo Fl) → Mo Fl
  | [], _ => fun s => if k.ok s then some (.ok .nx, s) else none
  | w :: ws, b => fun s => if k.ok s then (bnd (b w) fun f => match f with
    | .nx => forL k ws b
    | .ct => forL k ws b
    | .bk => ret .nx
    | .rt f => ret (.rt f)) s else none
noncomputable def mFor (mi : Mo Wk) (t : W → Mo Unit) (mb : Mo Fl) : Mo Fl := bnd mi fun k => forL k k.ws fun w => bnd (t w) fun _ => mb
theorem drop_get {α : Type} : ∀ {l : List α} {i : Nat} (h : i < l.length), l.drop i = l[i] :: l.drop (i + 1)
  | [], i, h => by simp at h
  | x :: l, 0, _ => by simp
  | x :: l, i + 1, h => by simpa using drop_get (l := l) (i := i) (by simpa using h)
theorem ref_for {wi : TI} {g : TG} {tb : TS} {mi : Mo Wk} {t : W → Mo Unit} {mb : Mo Fl} {l : List Nat} (hi : RefI K mg ea Wx wi mi) (hg : RefG K mg ea g t l) (hb : RefS K mg ea Wx tb mb) : RefS K mg ea Wx (tFor wi g tb) (mFor mi t mb) := by
  intro σ H io Fr s S0 r0 s' e D hnx hbk hct hrt hex
  rcases bnd_some e with ⟨x, e1, rfl⟩ | ⟨kw, s1, e1, e2⟩
  · exact hi σ H io Fr s S0 _ _ e1 _ (fun _ q => by cases q) fun x' q cls d H' io' px => by
      cases q
      exact hex _ rfl cls d σ H' io' px
  · refine hi σ H io Fr s S0 _ _ e1 _ (fun kw' q J H1 io1 px G => ?_) (fun _ q => by cases q)
    cases q
    refine ⟨fun i m σ2 H2 => m = kw.ws.length - i ∧ i ≤ kw.ws.length ∧ ∃ io2 s2, Sim K mg ea io2 Fr s2 σ2 H2 ∧ Stp io (Ms io Fr s σ) Fr H io2 (Ms io2 Fr s2 σ2) H2 ∧ Pers io1 (Ms io1 Fr s1 σ) H1 io2 (Ms io2 Fr s2 σ2) H2 ∧
      (∀ x o, H1 x = some o → ∃ o', H2 x = some o') ∧ forL kw (kw.ws.drop i) (fun w => bnd (t w) fun _ => mb) s2 = some (r0, s'),
      ⟨kw.ws.length, by simp, Nat.zero_le _, io1, s1, px.1, px.2, .refl, fun _ o h => ⟨o, h⟩, by simpa using e2⟩, ?_⟩
    rintro i m σ2 H2 ⟨rfl, hle, io2, s2, S2, T2, P2, tk, e3⟩
    have ck : kw.ok s2 := by
      cases hd : kw.ws.drop i with
      | nil =>
        rw [hd] at e3; unfold forL at e3; split at e3
        · assumption
        · cases e3
      | cons w ws =>
        rw [hd] at e3; unfold forL at e3; split at e3
        · assumption
        · cases e3
    have cn := cn_of S2 ck
    by_cases hlt : i < kw.ws.length
    · refine .inr ⟨G.go _ _ _ P2 cn i hlt, fun σ3 H3 => ∃ io3 s3, Sim K mg ea io3 Fr s3 σ3 H3 ∧ Stp io (Ms io Fr s σ) Fr H io3 (Ms io3 Fr s3 σ3) H3 ∧ Pers io1 (Ms io1 Fr s1 σ) H1 io3 (Ms io3 Fr s3 σ3) H3 ∧
        (∀ x o, H1 x = some o → ∃ o', H3 x = some o') ∧ forL kw (kw.ws.drop (i + 1)) (fun w => bnd (t w) fun _ => mb) s3 = some (r0, s'), fun σ3 H3 ⟨io3, s3, a1, a2, a3, a4, a5⟩ => ⟨kw.ws.length - (i + 1), by omega, rfl, hlt, io3, s3, a1, a2, a3, a4, a5⟩, fun x H3 y => ?_⟩
      rw [drop_get hlt] at e3
      have item : ∃ io3 , Sim K mg ea io3 Fr s2 σ2 H3 ∧ Stp io2 (Ms io2 Fr s2 σ2) Fr H2 io3 (Ms io3 Fr s2 σ2) H3 ∧ Rw K mg io3 (Ms io3 Fr s2 σ2) H3 kw.ws[i] x := by
        rcases G.yld _ _ _ P2 cn (fun a z => S2.trkN z) i x H3 y kw.ws[i] (by simp [hlt]) with ⟨rfl, r⟩ | ⟨p, us, ws', hp, rfl, hw, rfl, r⟩
        · exact ⟨io2, S2, .refl, r⟩
        · obtain ⟨S3, T3⟩ := S2.laid (o := .tup us) hp
          have r' := r.pers T3.p
          refine ⟨io2, S3, T3, ?_⟩
          rw [hw]
          refine .tup (.inl ⟨upd_same, fun z => ?_⟩) r'.1 r'.2
          obtain ⟨u, e⟩ := S2.trk z
          rw [hp] at e; cases e
      obtain ⟨io3, S3, T3, R3⟩ := item
      have T23 := T2.trans T3
      have P3 := P2.trans T3.p tk
      have tk3 : ∀ x o, H1 x = some o → ∃ o', H3 x = some o' := fun x o h => let ⟨o', h'⟩ := tk x o h; T3.trk x o' h'
      unfold forL at e3
      rw [if_pos ck] at e3
      have body : ∀ {rb : Except Ex Fl} {s4 : S}, (bnd (t kw.ws[i]) fun _ => mb) s2 = some (rb, s4) → ∀ D' : Ends,
          (∀ f, rb = .ok f → (f = .nx → ∀ σ4 H4 io4, Sim K mg ea io4 Fr s4 σ4 H4 → Stp io3 (Ms io3 Fr s2 σ2) Fr H3 io4 (Ms io4 Fr s4 σ4) H4 → D'.nx σ4 H4) ∧ (f = .bk → ∀ σ4 H4 io4, Sim K mg ea io4 Fr s4 σ4 H4 → Stp io3 (Ms io3 Fr s2 σ2) Fr H3 io4 (Ms io4 Fr s4 σ4) H4 → D'.bk σ4 H4) ∧
            (f = .ct → ∀ σ4 H4 io4, Sim K mg ea io4 Fr s4 σ4 H4 → Stp io3 (Ms io3 Fr s2 σ2) Fr H3 io4 (Ms io4 Fr s4 σ4) H4 → D'.ct σ4 H4) ∧ (∀ u, f = .rt u → ∀ v H4 io4, PostF K mg io3 (Ms io3 Fr s2 σ2) Fr H3 s4.G io4 H4 u v → D'.rt v H4)) →
          (∀ xx, rb = .error xx → ∀ cls d σ4 H4 io4, Sim K mg ea io4 Fr s4 σ4 H4 → Stp io3 (Ms io3 Fr s2 σ2) Fr H3 io4 (Ms io4 Fr s4 σ4) H4 → ExR K mg io4 (Ms io4 Fr s4 σ4) H4 xx cls d → Wx cls d σ4 H4) → g x σ2 H3 fun σ5 H5 => tb D' σ5 H5 := by
        intro rb s4 eb D' hok hxx
        rcases bnd_some eb with ⟨z, e5, rfl⟩ | ⟨_, s5, e5, e6⟩
        · have := hg.ne _ _ _ _ e5
          cases this
        · refine hg.go σ2 H3 io3 Fr s2 _ x S3 R3 _ _ e5 _ fun σ5 S5 l5 _ _ => ?_
          have T5 : Stp io3 (Ms io3 Fr s2 σ2) Fr H3 io3 (Ms io3 Fr s5 σ5) H3 := Stp.refl.less l5
          exact hb σ5 H3 io3 Fr s5 S5 _ _ e6 D' (fun q σ4 H4 io4 p => (hok _ q).1 rfl σ4 H4 io4 p.1 (T5.trans p.2)) (fun q σ4 H4 io4 p => (hok _ q).2.1 rfl σ4 H4 io4 p.1 (T5.trans p.2))
            (fun q σ4 H4 io4 p => (hok _ q).2.2.1 rfl σ4 H4 io4 p.1 (T5.trans p.2)) (fun u q v H4 io4 p => (hok _ q).2.2.2 u rfl v H4 io4 (p.trans T5)) fun xx q cls d σ4 H4 io4 p => hxx xx q cls d σ4 H4 io4 p.1 (T5.trans p.2.1) p.2.2
      rcases bnd_some e3 with ⟨z, e4, rfl⟩ | ⟨f, s4, e4, e5⟩
      · exact body e4 _ (fun _ q => by cases q) fun xx q cls d σ4 H4 io4 a1 a2 a3 => by
          cases q
          exact hex _ rfl cls d σ4 H4 io4 ⟨a1, T23.trans a2, a3⟩
      · refine body e4 _ (fun f' q => ?_) fun _ q => by cases q
        cases q
        have again : forL kw (kw.ws.drop (i + 1)) (fun w => bnd (t w) fun _ => mb) s4 = some (r0, s') → ∀ σ4 H4 io4, Sim K mg ea io4 Fr s4 σ4 H4 → Stp io3 (Ms io3 Fr s2 σ2) Fr H3 io4 (Ms io4 Fr s4 σ4) H4 →
            ∃ io3 s3, Sim K mg ea io3 Fr s3 σ4 H4 ∧ Stp io (Ms io Fr s σ) Fr H io3 (Ms io3 Fr s3 σ4) H4 ∧ Pers io1 (Ms io1 Fr s1 σ) H1 io3 (Ms io3 Fr s3 σ4) H4 ∧ (∀ x o, H1 x = some o → ∃ o', H4 x = some o') ∧ forL kw (kw.ws.drop (i + 1)) (fun w => bnd (t w) fun _ => mb) s3 = some (r0, s') :=
          fun e6 σ4 H4 io4 a1 a2 => ⟨io4, s4, a1, T23.trans a2, P3.trans a2.p tk3, fun x o h => let ⟨o', h'⟩ := tk3 x o h; a2.trk x o' h', e6⟩
        refine ⟨fun q => ?_, fun q => ?_, fun q => ?_, fun u q => ?_⟩
        · subst q; exact again e5
        · subst q
          intro σ4 H4 io4 a1 a2
          cases e5
          exact hnx rfl σ4 H4 io4 ⟨a1, T23.trans a2⟩
        · subst q; exact again e5
        · subst q
          intro v H4 io4 p
          cases e5
          exact hrt _ rfl v H4 io4 (p.trans T23)
    · have hi' : i = kw.ws.length := by omega
      subst hi'
      rw [List.drop_length] at e3
      unfold forL at e3
      rw [if_pos ck] at e3
      cases e3
      exact .inl ⟨G.stop _ _ _ P2 cn, hnx rfl σ2 H2 io2 ⟨S2, T2⟩⟩
end
end Z
set_option Elab.async false
set_option linter.all false
set_option maxRecDepth 100000
namespace Z
open PySem PySem.Spec PyProof.Rows L2
section
variable {K : PySem.W.Frag} {mg : Str → Option Value} {ea : EA} {io io' : List Addr} {Fr Fr' : Addr → Prop} {s s' s2 : S} {σ σ' : L2.St} {H H' : Hp} {w : W} {v : V} {c : Cell} {o : HO} {a p : Addr} {ws : List W} {vs : List V} {M : Addr → Prop}
variable {Wx : WX}
theorem itg_list (h : H a = some (.lst vs)) (hn : ¬ M a) (r : Rws K mg io M H ws vs) : ItG K mg (Itl K a) ⟨ws, none⟩ io M H where
  go := fun io' M' H' P _ i hi => ⟨vs, vs[i]'(by rw [← r.1]; exact hi), SqL.of (P.keep _ _ h hn), by simp [← r.1, hi]⟩
  stop := fun io' M' H' P _ => ⟨vs, SqL.of (P.keep _ _ h hn), by rw [r.1]; exact Nat.le_refl _⟩
  yld := fun io' M' H' P _ _ i x H2 y w hw => .inl ⟨y.1, (r.2 i w x hw (y.2 vs (SqL.of (P.keep _ _ h hn)))).pers P⟩
theorem itg_frl (h : (Rd H a (.lst vs) ∧ ¬ M a) ∨ KL K a vs) (r : Rws K mg io M H ws vs) : ItG K mg (Itl K a) ⟨ws, none⟩ io M H := by
  have q : ∀ io' M' H', Pers io M H io' M' H' → SqL K H' a vs := fun io' M' H' P => h.imp (fun z => P.rd z.1 z.2) id
  exact {
           go := fun io' M' H' P _ i hi => ⟨vs, vs[i]'(by rw [← r.1]; exact hi), q _ _ _ P, by simp [← r.1, hi]⟩
           stop := fun io' M' H' P _ => ⟨vs, q _ _ _ P, by rw [r.1]; exact Nat.le_refl _⟩
           yld := fun io' M' H' P _ _ i x H2 y w hw => .inl ⟨y.1, (r.2 i w x hw (y.2 vs (q _ _ _ P))).pers P⟩ }
theorem itg_tup (h : (H a = some (.tup vs) ∧ ¬ M a) ∨ (KT K a vs ∧ vs = [])) (r : Rws K mg io M H ws vs) : ItG K mg (Itt K a) ⟨ws, none⟩ io M H := by
  have q : ∀ io' M' H', Pers io M H io' M' H' → SqT K H' a vs := fun io' M' H' P => h.elim (fun z => SqT.of (P.keep _ _ z.1 z.2)) fun z => .inr z.1
  exact {
           go := fun io' M' H' P _ i hi => ⟨vs, vs[i]'(by rw [← r.1]; exact hi), q _ _ _ P, by simp [← r.1, hi]⟩
           stop := fun io' M' H' P _ => ⟨vs, q _ _ _ P, by rw [r.1]; exact Nat.le_refl _⟩
           yld := fun io' M' H' P _ _ i x H2 y w hw => .inl ⟨y.1, (r.2 i w x hw (y.2 vs (q _ _ _ P))).pers P⟩ }
theorem itg_cell {n : Nat} (h0 : io[n]? = some a) : ItG K mg (Itl K a) ⟨ws, some n⟩ io M H := by
  have q : ∀ io' M' H', Pers io M H io' M' H' → Cn K mg ⟨ws, some n⟩ io' M' H' → ∃ vs, H' a = some (.lst vs) ∧ Rws K mg io' M' H' ws vs := fun io' M' H' P c => by
    obtain ⟨a', vs, h1, h2, h3⟩ := c
    rw [P.ext _ _ h0] at h1
    cases h1
    exact ⟨vs, h2, h3⟩
  exact {
           go := fun io' M' H' P c i hi => by
             obtain ⟨vs, h2, h3⟩ := q _ _ _ P c
             exact ⟨vs, vs[i]'(by rw [← h3.1]; exact hi), SqL.of h2, by simp [← h3.1, hi]⟩
           stop := fun io' M' H' P c => by
             obtain ⟨vs, h2, h3⟩ := q _ _ _ P c
             exact ⟨vs, SqL.of h2, by rw [h3.1]; exact Nat.le_refl _⟩
           yld := fun io' M' H' P c _ i x H2 y w hw => by
             obtain ⟨vs, h2, h3⟩ := q _ _ _ P c
             exact .inl ⟨y.1, h3.2 i w x hw (y.2 vs (SqL.of h2))⟩ }
def rngW (lo : Int) (n : Nat) : List W := (List.range n).map fun (k : Nat) => W.int (lo + (k : Int))
theorem itg_rng {lo : Int} {n : Nat} : ItG K mg (Itr lo n) ⟨rngW lo n, none⟩ io M H where
  go := fun io' M' H' P _ i hi => by
    show i < n
    simpa [rngW] using hi
  stop := fun io' M' H' P _ => by
    show n ≤ (rngW lo n).length
    simp [rngW]
  yld := fun io' M' H' P _ _ i x H2 y w hw => by
    obtain ⟨y1, rfl⟩ := y
    refine .inl ⟨y1, ?_⟩
    have hi := get_lt hw
    simp only [rngW, List.length_map, List.length_range] at hi
    simp only [rngW, List.getElem?_map, List.getElem?_range hi, Option.map_some, Option.some.injEq] at hw
    subst hw
    exact .int _
def walkOf (s : S) : W → Option Wk
  | .ref n => match s.G[n]? with
    | some (.lst ws) => some ⟨ws, some n⟩
    | _ => none
  | w => (seqOf w).map fun ws => ⟨ws, none⟩
def mIter (m : Mo RV) : Mo Wk := bnd m fun x => bnd (freeze (settle x)) fun w s => (walkOf s w).map fun k => (.ok k, s)
theorem ref_iter {tl : TE} {m : Mo RV} (h : RefE K mg ea Wx tl m) : RefI K mg ea Wx (fun σ H R => iList K tl σ H R ∨ iTup K tl σ H R) (mIter m) := by
  intro σ H io Fr s S0 r0 s' e R hok hex
  rcases bnd_some e with ⟨x, e1, rfl⟩ | ⟨x, s1, e1, e2⟩
  · exact .inl (h σ H io Fr s S0 _ _ e1 _ (fun _ q => by cases q) fun x' q cls d H' io' px => by
      cases q
      exact hex _ rfl cls d H' io' px)
  · have key : ∀ {Q : VK}, (∀ w v H1 io1, (walkOf s' w).map (fun k => (Except.ok k, s')) = some (r0, s') → Sim K mg ea io1 Fr s' σ H1 → Stp io (Ms io Fr s σ) Fr H io1 (Ms io1 Fr s' σ) H1 → Rw K mg io1 (Ms io1 Fr s' σ) H1 w v → (∃ s4, freeze (settle x) s1 = some (.ok w, s4)) → Q v H1) → tl σ H Q := by
      intro Q hQ
      refine h σ H io Fr s S0 _ _ e1 _ (fun x' q v H1 io1 px => ?_) (fun _ q => by cases q)
      cases q
      obtain ⟨S1, T1, R1⟩ := px.settled
      rcases bnd_some e2 with ⟨z, e3, _⟩ | ⟨w, s3, e3, e4⟩
      · obtain ⟨_, _, _, _, q, _⟩ := freeze_ok S1 R1 e3
        cases q
      · obtain ⟨_, l3, S3, w', q, R3⟩ := freeze_ok S1 R1 e3
        cases q
        obtain ⟨k, h1, h2⟩ := Option.map_eq_some_iff.mp e4
        cases h2
        exact hQ w v H1 io1 (by rw [h1]; rfl) S3 (T1.less l3) R3 ⟨_, e3⟩
    rcases bnd_some e2 with ⟨z, e3, rfl⟩ | ⟨w0, s3, e3, e4⟩
    · refine .inl (key fun w v H1 io1 k S1 T1 R1 ⟨s4, q⟩ => ?_)
      rw [e3] at q; cases q
    · cases w0 with
      | tup ws =>
        refine .inr (key fun w v H1 io1 k S1 T1 R1 ⟨s4, q⟩ => ?_)
        rw [e3] at q
        cases q
        cases k
        cases R1 with
        | tup h1 h2 h3 => exact ⟨_, rfl, ⟨_, h1.elim (fun z => SqT.of z.1) fun z => .inr z.1⟩, hok _ rfl _ _ _ ⟨S1, T1⟩ (itg_tup h1 ⟨h2, h3⟩)⟩
      | lst ws =>
        refine .inl (key fun w v H1 io1 k S1 T1 R1 ⟨s4, q⟩ => ?_)
        rw [e3] at q
        cases q
        cases k
        cases R1 with
        | lst h1 h2 h3 h4 => exact ⟨_, rfl, ⟨_, SqL.of h1⟩, hok _ rfl _ _ _ ⟨S1, T1⟩ (itg_list h1 h2 ⟨h3, h4⟩)⟩
      | frl ws =>
        refine .inl (key fun w v H1 io1 k S1 T1 R1 ⟨s4, q⟩ => ?_)
        rw [e3] at q
        cases q
        cases k
        cases R1 with
        | frl h1 h3 h4 => exact ⟨_, rfl, ⟨_, h1.imp (fun z => z.1) id⟩, hok _ rfl _ _ _ ⟨S1, T1⟩ (itg_frl h1 ⟨h3, h4⟩)⟩
      | ref n =>
        refine .inl (key fun w v H1 io1 k S1 T1 R1 ⟨s4, q⟩ => ?_)
        rw [e3] at q
        cases q
        obtain ⟨kk, h1, h2⟩ := Option.map_eq_some_iff.mp k
        cases h2
        unfold walkOf at h1
        simp only at h1
        split at h1
        · rename_i ws hG
          cases h1
          cases R1 with
          | ref hn =>
            obtain ⟨o, ho, vs, rfl, r⟩ := S1.g.cell n _ _ hn hG
            exact ⟨_, rfl, ⟨_, SqL.of ho⟩, hok _ rfl _ _ _ ⟨S1, T1⟩ (itg_cell hn)⟩
        · cases h1
      | _ => cases e4
def Rk (j : Int) : Prop := -(2 ^ 62) ≤ j ∧ j < 2 ^ 62
noncomputable instance (j : Int) : Decidable (Rk j) := Classical.propDecidable _
def Lk (j : Int) : Prop := 0 ≤ j ∧ j < 2 ^ 63
noncomputable instance (j : Int) : Decidable (Lk j) := Classical.propDecidable _
noncomputable def mRng1 (ms : Mo (List RV)) : Mo Wk := bnd ms fun xs => bnd (lookAll xs) fun ws => match ws with
  | [.int j] => if Rk j then ret ⟨rngW 0 j.toNat, none⟩ else stk
  | _ => stk
noncomputable def mRng2 (ms : Mo (List RV)) : Mo Wk := bnd ms fun xs => bnd (lookAll xs) fun ws => match ws with
  | [.int i, .int j] => if Rk i ∧ Rk j then ret ⟨rngW i (j - i).toNat, none⟩ else stk
  | _ => stk
theorem ref_rng1 {ta : TA} {ms : Mo (List RV)} (h : RefA K mg ea Wx ta ms) : RefI K mg ea Wx (iRng1 ta) (mRng1 ms) := by
  intro σ H io Fr s S0 r0 s' e R hok hex
  refine arg2 h S0 e hex fun xs vs s1 H1 io1 e2 px R1 => ?_
  rcases bnd_some e2 with ⟨x, e3, rfl⟩ | ⟨ws, s2, e3, e4⟩
  · obtain ⟨_, _, q, _⟩ := lookAll_ok px.1 R1 e3
    cases q
  · obtain ⟨rfl, ws', q, r2⟩ := lookAll_ok px.1 R1 e3
    cases q
    split at e4
    · split at e4
      · rename_i hz
        cases e4
        obtain ⟨v, rfl, rv⟩ := p1 r2
        have := rv.int
        subst this
        exact ⟨_, rfl, hz.1, hz.2, hok _ rfl _ _ _ px itg_rng⟩
      · cases e4
    · cases e4
theorem ref_rng2 {ta : TA} {ms : Mo (List RV)} (h : RefA K mg ea Wx ta ms) : RefI K mg ea Wx (iRng2 ta) (mRng2 ms) := by
  intro σ H io Fr s S0 r0 s' e R hok hex
  refine arg2 h S0 e hex fun xs vs s1 H1 io1 e2 px R1 => ?_
  rcases bnd_some e2 with ⟨x, e3, rfl⟩ | ⟨ws, s2, e3, e4⟩
  · obtain ⟨_, _, q, _⟩ := lookAll_ok px.1 R1 e3
    cases q
  · obtain ⟨rfl, ws', q, r2⟩ := lookAll_ok px.1 R1 e3
    cases q
    split at e4
    · split at e4
      · rename_i hz
        cases e4
        obtain ⟨v, v', rfl, rv, rv'⟩ := p2 r2
        have := rv.int
        subst this
        have := rv'.int
        subst this
        exact ⟨_, _, rfl, ⟨hz.1.1, hz.1.2, hz.2.1, hz.2.2⟩, hok _ rfl _ _ _ px itg_rng⟩
      · cases e4
    · cases e4
variable (K mg ea Wx)
def tOf (m : Mo RV) : TE := fun σ H Q => ∃ io Fr s r s', Sim K mg ea io Fr s σ H ∧ m s = some (r, s') ∧ (∀ x, r = .ok x → ∀ v H' io', PostE K mg ea io Fr s σ H s' io' H' x v → Q v H') ∧
  (∀ x, r = .error x → ∀ cls d H' io', PostX K mg ea io Fr s σ H s' σ io' H' x cls d → Wx cls d σ H')
def ttOf (m : Mo Bool) : TT := fun σ H Q => ∃ io Fr s r s', Sim K mg ea io Fr s σ H ∧ m s = some (r, s') ∧ (∀ b, r = .ok b → ∀ H' io', PostS K mg ea io Fr s σ H s' σ io' H' → Q b H') ∧
  (∀ x, r = .error x → ∀ cls d H' io', PostX K mg ea io Fr s σ H s' σ io' H' x cls d → Wx cls d σ H')
def gOf (t : W → Mo Unit) (l : List Nat) : TG := fun v σ H Q => ∃ io Fr s w r s', Sim K mg ea io Fr s σ H ∧ Rw K mg io (Ms io Fr s σ) H w v ∧ t w s = some (r, s') ∧
  (∀ σ', Sim K mg ea io Fr s' σ' H → (∀ b, Ms io Fr s' σ' b → Ms io Fr s σ b) → σ'.length = σ.length → (∀ j, j ∉ l → σ'[j]? = σ[j]?) → Q σ' H)
variable {K mg ea Wx}
theorem ref_tOf (m : Mo RV) : RefE K mg ea Wx (tOf K mg ea Wx m) m := fun σ H io Fr s S0 r s' e Q h1 h2 => ⟨io, Fr, s, r, s', S0, e, h1, h2⟩
theorem ref_ttOf (m : Mo Bool) : RefT K mg ea Wx (ttOf K mg ea Wx m) m := fun σ H io Fr s S0 r s' e Q h1 h2 => ⟨io, Fr, s, r, s', S0, e, h1, h2⟩
theorem ref_gOf {t : W → Mo Unit} {l : List Nat} (ne : ∀ w s r s', t w s = some (r, s') → r = .ok ()) : RefG K mg ea (gOf K mg ea t l) t l := ⟨ne, fun σ H io Fr s w v S0 R r s' e Q h => ⟨io, Fr, s, w, r, s', S0, R, e, h⟩⟩
theorem Sim.updFr {o' : HO} (x : Sim K mg ea io Fr s σ H) (hp : Fr p) (ho : H p = some o) (hN : Nt o' := by intro _ z; cases z) : Sim K mg ea io Fr s σ (upd H p o') := by
  have ne : ∀ b, ¬ Ms io Fr s σ b → b ≠ p := fun b h z => by
    subst z
    exact h (.inr (.inl hp))
  have q : Pers io (Ms io Fr s σ) H io (Ms io Fr s σ) (upd H p o') := ⟨fun b u e h => by rw [upd_ne (ne b h)]; exact e, fun b z => .inl z, fun _ _ e => e⟩
  have nio : ∀ b ∈ io, b ≠ p := fun b hb z => by
    subst z
    exact x.g.dj b hb (.inl hp)
  refine ⟨x.len, ⟨x.g.len, fun n b c h1 h2 => ?_, x.g.nd, x.g.dj, fun b z => ?_⟩, fun i w e => ?_, fun i c e => ?_, x.dist, fun i e k => let ⟨h1, h2⟩ := x.exc i e k; ⟨h1, h2.pers q⟩⟩
  · obtain ⟨u, e, r⟩ := x.g.cell n b c h1 h2
    exact ⟨u, by rw [upd_ne (nio b (List.mem_of_getElem? h1))]; exact e, r.pers q⟩
  · by_cases h : b = p
    · exact ⟨o', by rw [h, upd_same], hN⟩
    · obtain ⟨u, e, n⟩ := x.g.fr b z
      exact ⟨u, by rw [upd_ne h]; exact e, n⟩
  · obtain ⟨v, h1, h2⟩ := x.val i w e
    exact ⟨v, h1, h2.pers q⟩
  · obtain ⟨b, u, h1, h2, h3, h4⟩ := x.own i c e
    exact ⟨b, u, h1, by rw [upd_ne (fun z => by subst z; exact h4 hp)]; exact h2, h3.pers q, h4⟩
theorem Stp.updNew {M M' : Addr → Prop} {o' : HO} (T : Stp io M Fr H io' M' H') (hp : H p = none) (hf : ¬ Fr p) (h' : H' p = some o) : Stp io M Fr H io' M' (upd H' p o') where
  p := ⟨fun b u e h => by rw [upd_ne (ne_of_none e hp)]; exact T.p.keep b u e h, T.p.new, T.p.ext⟩
  fr := fun b z => by rw [upd_ne (fun e => by subst e; exact hf z)]; exact T.fr b z
  trk := fun b u e => by rw [upd_ne (ne_of_none e hp)]; exact T.trk b u e
def wipeR (r : List SV) : List Nat → List SV
  | [] => r
  | v :: vs => (wipeR r vs).set v .non
def wipeS (vs : List Nat) (s : S) : S := { s with r := wipeR s.r vs }
theorem wipeR_len (r : List SV) : ∀ l : List Nat, (wipeR r l).length = r.length
  | [] => rfl
  | v :: vs => by unfold wipeR; rw [List.length_set, wipeR_len r vs]
theorem wipeR_get {r : List SV} {i : Nat} : ∀ {l : List Nat}, (i ∉ l → (wipeR r l)[i]? = r[i]?) ∧ (i ∈ l → (wipeR r l)[i]? = some .non ∨ (wipeR r l)[i]? = none)
  | [] => ⟨fun _ => rfl, fun h => by simp at h⟩
  | v :: vs => by
    obtain ⟨i1, i2⟩ := wipeR_get (r := r) (i := i) (l := vs)
    refine ⟨fun h => ?_, fun h => ?_⟩
    · simp only [List.mem_cons, not_or] at h
      unfold wipeR
      rw [List.getElem?_set_ne (fun z => h.1 z.symm)]
      exact i1 h.2
    · unfold wipeR
      by_cases e : v = i
      · subst e
        rcases Nat.lt_or_ge v (wipeR r vs).length with q | q
        · exact .inl (List.getElem?_set_self q)
        · exact .inr (List.getElem?_eq_none (by simpa using q))
      · rw [List.getElem?_set_ne e]
        rcases List.mem_cons.mp h with z | z
        · exact absurd z.symm e
        · exact i2 z
theorem wipe_get {σ : L2.St} {i : Nat} : ∀ {l : List Nat}, (i ∉ l → (wipe σ l)[i]? = σ[i]?) ∧ (i ∈ l → i < σ.length → (wipe σ l)[i]? = some none)
  | [] => ⟨fun _ => rfl, fun h => by simp at h⟩
  | v :: vs => by
    obtain ⟨i1, i2⟩ := wipe_get (σ := σ) (i := i) (l := vs)
    refine ⟨fun h => ?_, fun h hl => ?_⟩
    · simp only [List.mem_cons, not_or] at h
      unfold wipe
      rw [List.getElem?_set_ne (fun z => h.1 z.symm)]
      exact i1 h.2
    · unfold wipe
      by_cases e : v = i
      · subst e
        exact List.getElem?_set_self (by rw [wipe_length]; exact hl)
      · rw [List.getElem?_set_ne e]
        rcases List.mem_cons.mp h with z | z
        · exact absurd z.symm e
        · exact i2 z hl
theorem wipe_eq {σ σ' : L2.St} {l : List Nat} (hl : σ'.length = σ.length) (h : ∀ j, j ∉ l → σ'[j]? = σ[j]?) : wipe σ' l = wipe σ l := by
  apply List.ext_getElem?
  intro j
  by_cases hj : j ∈ l
  · rcases Nat.lt_or_ge j σ.length with q | q
    · rw [(wipe_get (σ := σ')).2 hj (by rw [hl]; exact q), (wipe_get (σ := σ)).2 hj q]
    · rw [List.getElem?_eq_none (by rw [wipe_length, hl]; exact q), List.getElem?_eq_none (by rw [wipe_length]; exact q)]
  · rw [(wipe_get (σ := σ')).1 hj, (wipe_get (σ := σ)).1 hj, h j hj]
theorem wipe_wipe {σ : L2.St} {l : List Nat} : wipe (wipe σ l) l = wipe σ l := wipe_eq (wipe_length σ l) fun j hj => (wipe_get (σ := σ)).1 hj
theorem Sim.wiped {l : List Nat} (x : Sim K mg ea io Fr s σ H) (hl : σ'.length = σ.length) (h : ∀ j, j ∉ l → σ'[j]? = σ[j]?) : Sim K mg ea io Fr (wipeS l s) σ' H ∧ (∀ b, Ms io Fr (wipeS l s) σ' b → Ms io Fr s σ b) := by
  refine x.sub (by rw [wipeR_len, x.len, hl]) fun i => ?_
  by_cases hi : i ∈ l
  · exact .inr ((wipeR_get (r := s.r)).2 hi)
  · exact .inl ⟨(wipeR_get (r := s.r)).1 hi, h i hi⟩
noncomputable def lcL (vs : List Nat) (t : W → Mo Unit) (tt : Mo Bool) (me : Mo RV) (k : Wk) : List W → List W → Mo RV
  | [], acc => fun s => if k.ok s then some (.ok (.own (.lst acc)), s) else none
  | w :: ws, acc => fun s => if k.ok s then (match (bnd (t w) fun _ => tt) s with
    | some (.ok true, s1) => match (bnd me fun x => freeze (settle x)) s1 with
      | some (.ok y, s2) => if acc.length < sz then lcL vs t tt me k ws (acc ++ [y]) (wipeS vs s2) else none
      | _ => none
    | some (.ok false, s1) => lcL vs t tt me k ws acc (wipeS vs s1)
    | _ => none) else none
noncomputable def mLc (vs : List Nat) (mi : Mo Wk) (t : W → Mo Unit) (tt : Mo Bool) (me : Mo RV) : Mo RV := bnd mi fun k => fun s => lcL vs t tt me k k.ws [] (wipeS vs s)
def W0 : WX := fun _ _ _ _ => False
theorem ref_lc {wi : TI} {g : TG} {tt : TT} {te : TE} {mi : Mo Wk} {t : W → Mo Unit} {mt : Mo Bool} {me : Mo RV} {l vs : List Nat} (hi : RefI K mg ea Wx wi mi) (hg : RefG K mg ea g t l) (hl : ∀ i ∈ l, i ∈ vs) (ht : RefT K mg ea W0 tt mt) (he : RefE K mg ea W0 te me) :
    RefE K mg ea Wx (tLc wi g tt te vs) (mLc vs mi t mt me) := by
  intro σ H io Fr s S0 r0 s' e Q hok hex
  rcases bnd_some e with ⟨x, e1, rfl⟩ | ⟨kw, s1, e1, e2⟩
  · exact hi σ H io Fr s S0 _ _ e1 _ (fun _ q => by cases q) fun x' q cls d H' io' px => by
      cases q
      exact hex _ rfl cls d H' io' px
  · refine hi σ H io Fr s S0 _ _ e1 _ (fun kw' q J H1 io1 px G => ?_) (fun _ q => by cases q)
    cases q
    intro D hD
    obtain ⟨SD, TD, nD⟩ := px.1.alloc (o := .lst []) hD
    have nFD : ¬ Fr D := fun z => nD (.inl z)
    obtain ⟨SW, lW⟩ := SD.wiped (l := vs) (σ' := wipe σ vs) (wipe_length σ vs) fun j hj => (wipe_get (σ := σ)).1 hj
    have TW := TD.less lW
    refine ⟨fun i m H2 => m = kw.ws.length - i ∧ i ≤ kw.ws.length ∧ ∃ io2 s2 acc av, Sim K mg ea io2 (pls Fr D) s2 (wipe σ vs) H2 ∧ Stp io1 (Ms io1 Fr s1 σ) Fr H1 io2 (Ms io2 (pls Fr D) s2 (wipe σ vs)) H2 ∧
      H2 D = some (.lst av) ∧ Rws K mg io2 (Ms io2 (pls Fr D) s2 (wipe σ vs)) H2 acc av ∧ (∀ j, j ∈ vs → s2.r[j]? = some .non ∨ s2.r[j]? = none) ∧ lcL vs t mt me kw (kw.ws.drop i) acc s2 = some (r0, s'),
      ⟨kw.ws.length, by simp, Nat.zero_le _, io1, wipeS vs s1, [], [], SW, TW, upd_same, Rws.nil, fun j hj => (wipeR_get (r := s1.r)).2 hj, by simpa using e2⟩, ?_⟩
    rintro i m H2 ⟨rfl, hle, io2, s2, acc, av, S2, T2, hA, RA, wn, e3⟩
    have ck : kw.ok s2 := by
      cases hd : kw.ws.drop i with
      | nil =>
        rw [hd] at e3; unfold lcL at e3; split at e3
        · assumption
        · cases e3
      | cons w ws =>
        rw [hd] at e3; unfold lcL at e3; split at e3
        · assumption
        · cases e3
    have cn := cn_of S2 ck
    by_cases hlt : i < kw.ws.length
    · refine .inr ⟨G.go _ _ _ T2.p cn i hlt, fun H3 => ∃ io3 s3 acc av, Sim K mg ea io3 (pls Fr D) s3 (wipe σ vs) H3 ∧ Stp io1 (Ms io1 Fr s1 σ) Fr H1 io3 (Ms io3 (pls Fr D) s3 (wipe σ vs)) H3 ∧
        H3 D = some (.lst av) ∧ Rws K mg io3 (Ms io3 (pls Fr D) s3 (wipe σ vs)) H3 acc av ∧ (∀ j, j ∈ vs → s3.r[j]? = some .non ∨ s3.r[j]? = none) ∧ lcL vs t mt me kw (kw.ws.drop (i + 1)) acc s3 = some (r0, s'),
        fun H3 ⟨io3, s3, acc, av, a1, a2, a3, a4, a6, a5⟩ => ⟨kw.ws.length - (i + 1), by omega, rfl, hlt, io3, s3, acc, av, a1, a2, a3, a4, a6, a5⟩, fun x H3 y => ?_⟩
      rw [drop_get hlt] at e3
      have item : ∃ io3, Sim K mg ea io3 (pls Fr D) s2 (wipe σ vs) H3 ∧ Stp io2 (Ms io2 (pls Fr D) s2 (wipe σ vs)) (pls Fr D) H2 io3 (Ms io3 (pls Fr D) s2 (wipe σ vs)) H3 ∧ Rw K mg io3 (Ms io3 (pls Fr D) s2 (wipe σ vs)) H3 kw.ws[i] x := by
        rcases G.yld _ _ _ T2.p cn (fun a z => S2.trkN z) i x H3 y kw.ws[i] (by simp [hlt]) with ⟨rfl, r⟩ | ⟨p, us, ws', hp, rfl, hw, rfl, r⟩
        · exact ⟨io2, S2, .refl, r⟩
        · obtain ⟨S3, T3⟩ := S2.laid (o := .tup us) hp
          have r' := r.pers T3.p
          refine ⟨io2, S3, T3, ?_⟩
          rw [hw]
          refine .tup (.inl ⟨upd_same, fun z => ?_⟩) r'.1 r'.2
          obtain ⟨u, e⟩ := S2.trk z
          rw [hp] at e; cases e
      obtain ⟨io3, S3, T3, R3⟩ := item
      have T23 := T2.trans (T3.frless pls.sub)
      have hA3 : H3 D = some (.lst av) := (T3.fr D (.inr rfl)).trans hA
      have RA3 := RA.pers T3.p
      unfold lcL at e3
      rw [if_pos ck] at e3
      cases ex : (bnd (t kw.ws[i]) fun _ => mt) s2 with
      | none => rw [ex] at e3; cases e3
      | some pr =>
        obtain ⟨rb, s4⟩ := pr
        rw [ex] at e3
        rcases bnd_some ex with ⟨z, e5, rfl⟩ | ⟨_, s5, e5, e6⟩
        · have := hg.ne _ _ _ _ e5
          cases this
        · refine hg.go (wipe σ vs) H3 io3 (pls Fr D) s2 _ x S3 R3 _ _ e5 _ fun σ5 S5 l5 n5 k5 => ?_
          have k5' : ∀ j, j ∉ vs → σ5[j]? = (wipe σ vs)[j]? := fun j hj => k5 j fun z => hj (hl j z)
          have we : wipe σ5 vs = wipe σ vs := by rw [wipe_eq n5 k5', wipe_wipe]
          refine ⟨we, ?_⟩
          have T5 : Stp io3 (Ms io3 (pls Fr D) s2 (wipe σ vs)) (pls Fr D) H3 io3 (Ms io3 (pls Fr D) s5 σ5) H3 := Stp.refl.less l5
          have back : ∀ {s6 : S} {H6 : Hp} {io6 : List Addr}, Sim K mg ea io6 (pls Fr D) s6 σ5 H6 → Sim K mg ea io6 (pls Fr D) (wipeS vs s6) (wipe σ vs) H6 ∧ (∀ b, Ms io6 (pls Fr D) (wipeS vs s6) (wipe σ vs) b → Ms io6 (pls Fr D) s6 σ5 b) := fun S6 =>
            S6.wiped (by rw [n5]) fun j hj => (k5' j hj).symm
          cases rb with
          | error z => cases e3
          | ok b =>
            refine ht σ5 H3 io3 (pls Fr D) s5 S5 _ _ e6 _ (fun b' q H6 io6 p6 => ?_) fun z q => by cases q
            cases q
            have T36 := T23.trans ((T5.trans p6.2).frless pls.sub)
            have hA6 : H6 D = some (.lst av) := (p6.2.fr D (.inr rfl)).trans hA3
            have RA6 := (RA3.pers T5.p).pers p6.2.p
            cases b with
            | false =>
              rw [if_neg Bool.false_ne_true]
              obtain ⟨S7, l7⟩ := back p6.1
              exact ⟨io6, _, acc, av, S7, T36.less l7, hA6, RA6.pers (.less l7), fun j hj => (wipeR_get (r := s4.r)).2 hj, e3⟩
            | true =>
              rw [if_pos rfl]
              simp only at e3
              cases ey : (bnd me fun x => freeze (settle x)) s4 with
              | none => rw [ey] at e3; cases e3
              | some pr2 =>
                obtain ⟨ry, s7⟩ := pr2
                rw [ey] at e3
                cases ry with
                | error z => cases e3
                | ok yv =>
                  simp only at e3
                  split at e3
                  · rename_i hz
                    refine one2 he p6.1 ey (fun x q => by cases q) fun xr v s8 H8 io8 e8 p8 => ?_
                    obtain ⟨S8, T8, R8⟩ := p8.settled
                    obtain ⟨_, l9, S9, w', q, R9⟩ := freeze_ok S8 R8 e8
                    cases q
                    have hA8 : H8 D = some (.lst av) := (T8.fr D (.inr rfl)).trans hA6
                    have RA8 := (RA6.pers T8.p).pers (.less l9)
                    refine ⟨av, hA8, by rw [sz_eq, ← RA8.1]; exact hz, ?_⟩
                    have S10 := S9.updFr (o' := .lst (av ++ [v])) (.inr rfl) hA8
                    obtain ⟨S11, l11⟩ := back S10
                    have T11 : Stp io1 (Ms io1 Fr s1 σ) Fr H1 io8 (Ms io8 (pls Fr D) (wipeS vs s7) (wipe σ vs)) (upd H8 D (.lst (av ++ [v]))) :=
                      ((T36.trans ((T8.less l9).frless pls.sub)).updNew hD nFD hA8).less l11
                    have PD : Pers io8 (Ms io8 (pls Fr D) s7 σ5) H8 io8 (Ms io8 (pls Fr D) (wipeS vs s7) (wipe σ vs)) (upd H8 D (.lst (av ++ [v]))) :=
                      ⟨fun b u e h => by rw [upd_ne (fun z => by subst z; exact h (.inr (.inl (.inr rfl))))]; exact e, fun b z => .inl (l11 b z), fun _ _ e => e⟩
                    exact ⟨io8, _, acc ++ [yv], av ++ [v], S11, T11, upd_same, (RA8.append (Rws.one R9)).pers PD, fun j hj => (wipeR_get (r := s7.r)).2 hj, e3⟩
                  · cases e3
    · have hi' : i = kw.ws.length := by omega
      subst hi'
      rw [List.drop_length] at e3
      unfold lcL at e3
      rw [if_pos ck] at e3
      cases e3
      refine .inl ⟨G.stop _ _ _ T2.p cn, hok _ rfl (.ref D) H2 io2 ?_⟩
      obtain ⟨S3, l3⟩ := S2.sub (r' := s'.r) (σ' := σ) (by rw [S2.len, wipe_length]) fun j => by
        by_cases hj : j ∈ vs
        · exact .inr (wn j hj)
        · exact .inl ⟨rfl, ((wipe_get (σ := σ)).1 hj).symm⟩
      refine ⟨D, .lst av, rfl, hA, fun z => ?_, S3, (px.2.trans T2).less l3, av, rfl, RA.pers (.less l3)⟩
      rcases z with z | ⟨j, c, h1, h2⟩
      · exact nFD z
      · obtain ⟨b, o, q1, _, _, q4⟩ := S3.own j c h1
        rw [h2] at q1
        cases q1
        exact q4 (.inr rfl)
end
end Z
set_option Elab.async false
set_option linter.all false
set_option maxRecDepth 100000
namespace Z
open PySem PySem.Spec PyProof.Rows L2
section
variable {X : Cx} {ea : EA} {Wx : WX} {a b c e : Expr} {ma mb mc m : Mo RV} {pos pos' : Pos} {st : Stmt} {rest sts : List Stmt} {f g : Mo Fl} {mt : Mo Bool}
theorem PE.imp {t t' : TE} (h : PE X e t) (k : ∀ σ H Q, t' σ H Q → t σ H Q) : PE X e t' := ⟨fun pins s σ H Q I q => h.run pins s σ H Q I (k _ _ _ q)⟩
theorem Pee.can (h : Pee X ea Wx e m) : PE X e (tOf X.K X.mg ea Wx m) := by
  obtain ⟨t, p, r⟩ := h.ex
  exact PE.imp p fun σ H Q ⟨io, Fr, s, r0, s', S0, e, h1, h2⟩ => r σ H io Fr s S0 r0 s' e Q h1 h2
theorem Pet.can (h : Pet X ea Wx e mt) : PT X e (ttOf X.K X.mg ea Wx mt) := by
  obtain ⟨t, p, r⟩ := h.ex
  exact ⟨fun pins s σ H Q I ⟨io, Fr, s1, r0, s', S0, e, h1, h2⟩ => p.run pins s σ H Q I (r σ H io Fr s1 S0 r0 s' e Q h1 h2)⟩
structure Peg (X : Cx) (ea : EA) (tg : Expr) (t : W → Mo Unit) (l : List Nat) : Prop where
  ex : ∃ g, PG X tg g ∧ RefG X.K X.mg ea g t l
structure Pegs (X : Cx) (ea : EA) (tgs : List Expr) (t : List W → Mo Unit) (l : List Nat) : Prop where
  ex : ∃ g, PGs X tgs g ∧ RefGs X.K X.mg ea g t l
structure Pei (X : Cx) (ea : EA) (Wx : WX) (tg iter : Expr) (m : Mo Wk) : Prop where
  ex : ∃ wi, PI X tg iter wi ∧ RefI X.K X.mg ea Wx wi m
theorem Peg.can {tg : Expr} {t : W → Mo Unit} {l : List Nat} (h : Peg X ea tg t l) : PG X tg (gOf X.K X.mg ea t l) := by
  obtain ⟨g, p, r⟩ := h.ex
  exact ⟨fun pins s σ H v u Q I rv ⟨io, Fr, s1, w, r0, s', S0, R, e, h⟩ => p.run pins s σ H v u Q I rv (r.go σ H io Fr s1 w v S0 R r0 s' e Q h)⟩
theorem Peg.ne {tg : Expr} {t : W → Mo Unit} {l : List Nat} (h : Peg X ea tg t l) : ∀ w s r s', t w s = some (r, s') → r = .ok () := let ⟨_, _, r⟩ := h.ex; r.ne
theorem PI.or {tg iter : Expr} {wi wi' : TI} (h : PI X tg iter wi) (h' : PI X tg iter wi') : PI X tg iter (fun σ H R => wi σ H R ∨ wi' σ H R) := ⟨fun pins s σ H R I q => q.elim (h.run pins s σ H R I) (h'.run pins s σ H R I)⟩
theorem pee_ife (hc : Pet X ea Wx c mt) (ha : Pee X ea Wx a ma) (hb : Pee X ea Wx b mb) : Pee X ea Wx (.IfExp c a b pos) (mIfE mt ma mb) :=
  let ⟨_, p, r⟩ := hc.ex; let ⟨_, p1, r1⟩ := ha.ex; let ⟨_, p2, r2⟩ := hb.ex; ⟨_, pe_ifExp p p1 p2, ref_ife r r1 r2⟩
theorem pee_one {op} (h : Pee X ea Wx a ma) : Pee X ea Wx (.BoolOp op [a] pos) ma := let ⟨_, p, r⟩ := h.ex; ⟨_, pe_one p, r⟩
theorem pee_and {es : List Expr} (ha : Pee X ea Wx a ma) (hb : Pee X ea Wx (.BoolOp .And (b :: es) pos) mb) : Pee X ea Wx (.BoolOp .And (a :: b :: es) pos) (mAndV ma mb) :=
  let ⟨_, p1, r1⟩ := ha.ex; let ⟨_, p2, r2⟩ := hb.ex; ⟨_, L2.pe_and p1 p2, ref_andV r1 r2⟩
theorem pee_not (ha : Pee X ea Wx a ma) : Pee X ea Wx (.UnaryOp .Not a pos) (mNotV ma) := let ⟨_, p1, r1⟩ := ha.ex; ⟨_, L2.pe_not p1, ref_notV r1⟩
theorem peg_name (i : Nat) {x : Str} (hN : X.N.Nodup) (hi : X.N[i]? = some x := by rfl) (hx : Loc X.env.scope x := by first | exact Or.inl rfl | exact Or.inr rfl) (hf : X.fn x = true ∨ X.env.scope.names.lookup x = some .local := by first | exact .inl rfl | exact .inr rfl) :
    Peg X ea (.Name x pos) (tgN i) [i] := ⟨_, pg_name hN hi hx hf, ref_tgN i⟩
theorem pegs_nil : Pegs X ea [] tgsNil [] := ⟨_, pgs_nil, ref_tgsNil⟩
theorem pegs_cons {es : List Expr} {t : W → Mo Unit} {u : List W → Mo Unit} {l l' : List Nat} (h1 : Peg X ea e t l) (h2 : Pegs X ea es u l') (hs : (assignEach (e :: es) X.env).map (·.2) = assign e X.env :: (assignEach es X.env).map (·.2) := by rfl) :
    Pegs X ea (e :: es) (tgsCons t u) (l ++ l') := let ⟨_, p, r⟩ := h1.ex; let ⟨_, p', r'⟩ := h2.ex; ⟨_, pgs_cons p p' hs, ref_tgsCons r r'⟩
theorem peg_tup {es : List Expr} {k : Nat} {u : List W → Mo Unit} {l : List Nat} {n : Nat} (h : Pegs X ea es u l) (hc : X.calm = true := by rfl) (hn : (assignEach es X.env).length = n := by rfl) (hst : (assignEach es X.env).findIdx? (·.1) = none := by rfl) :
    Peg X ea (.Tuple es k pos) (tgT n u) l := let ⟨_, p, r⟩ := h.ex; ⟨_, pg_tup hc p hn hst, ref_tgT r⟩
theorem pei_seq {tg : Expr} (h : Pee X ea Wx e m) : Pei X ea Wx tg e (mIter m) := let ⟨_, p, r⟩ := h.ex; ⟨_, PI.or (pi_list p) (pi_tup p), ref_iter r⟩
theorem pei_rng1 {tg : Expr} {p : Pos} {ms : Mo (List RV)} (hm : X.mg "range" = none) (ha : Pea X ea Wx [a] ms) (hg : Gl X "range" := by rfl) (hs : starEach [a] X.env = [(false, eval a X.env)] := by rfl) : Pei X ea Wx tg (.Call (.Name "range" p) [a] [] pos) (mRng1 ms) :=
  let ⟨_, p, r⟩ := ha.ex; ⟨_, pi_range1 hg hm p hs, ref_rng1 r⟩
theorem pei_rng2 {tg : Expr} {p : Pos} {ms : Mo (List RV)} (hm : X.mg "range" = none) (ha : Pea X ea Wx [a, b] ms) (hg : Gl X "range" := by rfl) (hs : starEach [a, b] X.env = [(false, eval a X.env), (false, eval b X.env)] := by rfl) (hs2 : starEach [b] X.env = [(false, eval b X.env)] := by rfl) :
    Pei X ea Wx tg (.Call (.Name "range" p) [a, b] [] pos) (mRng2 ms) := let ⟨_, p, r⟩ := ha.ex; ⟨_, pi_range2 hg hm p hs hs2, ref_rng2 r⟩
theorem pess_nil : Pess X ea Wx [] mNext := ⟨_, pss_nil, ref_next⟩
theorem pess_cons (h : Pes X ea Wx st f) (h' : Pess X ea Wx rest g) : Pess X ea Wx (st :: rest) (mSeq f g) := let ⟨_, p, r⟩ := h.ex; let ⟨_, p', r'⟩ := h'.ex; ⟨_, pss_cons p p', ref_seq r r'⟩
theorem pess_one (h : Pes X ea Wx st f) : Pess X ea Wx [st] f := let ⟨_, p, r⟩ := h.ex; ⟨_, pss_one p, r⟩
theorem pes_expr (h : Pee X ea Wx e m) (hs : swapsWith e none pos.line X.env = pure false := by rfl) : Pes X ea Wx (.Expr e pos) (mDrop m) := let ⟨_, p, r⟩ := h.ex; ⟨_, ps_expr p hs, ref_drop r⟩
theorem pes_ret (h : Pee X ea Wx e m) : Pes X ea Wx (.Return (some e) pos) (mRet m) := let ⟨_, p, r⟩ := h.ex; ⟨_, ps_ret p, ref_ret r⟩
theorem pes_if (hc : Pet X ea Wx c mt) (h : Pess X ea Wx sts f) (h' : Pess X ea Wx rest g) : Pes X ea Wx (.If c sts rest pos) (mIf mt f g) := let ⟨_, p, r⟩ := hc.ex; let ⟨_, p1, r1⟩ := h.ex; let ⟨_, p2, r2⟩ := h'.ex; ⟨_, ps_if p p1 p2, ref_if r r1 r2⟩
theorem pes_set (i : Nat) {x : Str} {pos' : Pos} (hN : X.N.Nodup) (he : Pee X ea Wx e m) (hi : X.N[i]? = some x := by rfl) (hx : Loc X.env.scope x := by first | exact Or.inl rfl | exact Or.inr rfl) (hs : swapsWith e (some (.Name x pos')) pos.line X.env = pure false := by rfl) (hf : X.fn x = true ∨ X.env.scope.names.lookup x = some .local := by first | exact .inl rfl | exact .inr rfl) :
    Pes X ea Wx (.Assign [.Name x pos'] e pos) (mAsg i m) := let ⟨_, p, r⟩ := he.ex; ⟨_, ps_set hN hi hx p hs hf, ref_asg i r⟩
theorem pes_asg {tg : Expr} {t : W → Mo Unit} {l : List Nat} (he : Pee X ea Wx e m) (hg : Peg X ea tg t l) (hs : swapsWithSole [tg] e pos.line X.env = pure false := by rfl) (hw : swappedStores [tg] e X.env = pure none := by rfl)
    (h1 : (assignEach [tg] X.env).map (·.2) = [assign tg X.env] := by rfl) : Pes X ea Wx (.Assign [tg] e pos) (mAsgT t m) := let ⟨_, p, r⟩ := he.ex; let ⟨_, p', r'⟩ := hg.ex; ⟨_, ps_asg p p' hs hw h1, ref_asgT r r'⟩
theorem pes_for {tg iter : Expr} {mi : Mo Wk} {t : W → Mo Unit} {l : List Nat} (hp : PassesOwn (model X.prog X.w) X.A X.env X.xe) (hi : Pei X ea Wx tg iter mi) (hg : Peg X ea tg t l) (hb : Pess X ea Wx sts f) (hc : X.calm = true := by rfl) (hs : ∀ x, foldedSetIterable iter X.env x = pure x := by intro _; rfl) :
    Pes X ea Wx (.For tg iter sts [] pos) (mFor mi t f) := let ⟨_, p, r⟩ := hi.ex; let ⟨_, p1, r1⟩ := hg.ex; let ⟨_, p2, r2⟩ := hb.ex; ⟨_, ps_for hp hc p p1 p2 hs, ref_for r r1 r2⟩
section
variable {elt tg iter : Expr} {ifs : List Expr} {scope : Scope} {own : List (Str × Nat)} {mi : Mo Wk} {t : W → Mo Unit} {l : List Nat} {me : Mo RV}
structure Pets (X : Cx) (ea : EA) (Wx : WX) (ifs : List Expr) (m : Mo Bool) : Prop where
  ex : ∃ t, PTs X ifs t ∧ RefT X.K X.mg ea Wx t m
theorem Pets.can {m : Mo Bool} (h : Pets X ea Wx ifs m) : PTs X ifs (ttOf X.K X.mg ea Wx m) := by
  obtain ⟨t, p, r⟩ := h.ex
  exact ⟨fun pins s σ H Q I ⟨io, Fr, s1, r0, s', S0, e, h1, h2⟩ => p.run pins s σ H Q I (r σ H io Fr s1 S0 r0 s' e Q h1 h2)⟩
def mYes : Mo Bool := ret true
theorem pets_nil : Pets X ea Wx [] mYes := ⟨_, pts_nil, fun σ H io Fr s S0 r0 s' e Q hok _ => by cases e; exact hok _ rfl _ _ ⟨S0, .refl⟩⟩
theorem pets_one (h : Pet X ea Wx c mt) : Pets X ea Wx [c] mt := let ⟨_, p, r⟩ := h.ex; ⟨_, pts_one p, r⟩
theorem tgN_ne (i : Nat) : ∀ w s r s', tgN i w s = some (r, s') → r = .ok () := fun w s r s' e => by cases e; rfl
structure Blk (X : Cx) (ea : EA) (tg elt : Expr) (ifs : List Expr) (scope : Scope) (own : List (Str × Nat)) (t : W → Mo Unit) (l : List Nat) (mt : Mo Bool) (me : Mo RV) : Prop where
  ok : BlkOk X.N X.env.scope scope own
  ne : ∀ w s r s', t w s = some (r, s') → r = .ok ()
  sub : ∀ i ∈ l, i ∈ own.map (·.2)
  tg : ∀ (s : Shared) (H : Hp) (C : Addr) (cl : List (Str × Addr)) (fp : List Addr), Peg (X.blk s H scope (compEnvC scope cl C X.env) fp) ea tg t l
  ts : ∀ (s : Shared) (H : Hp) (C : Addr) (cl : List (Str × Addr)) (fp : List Addr), Pets (X.blk s H scope (compEnvC scope cl C X.env) fp) ea W0 ifs mt
  el : ∀ (s : Shared) (H : Hp) (C : Addr) (cl : List (Str × Addr)) (fp : List Addr), Pee (X.blk s H scope (compEnvC scope cl C X.env) fp) ea W0 elt me
theorem pee_lc (hN : X.N.Nodup) (hi : Pei X ea Wx tg iter mi) (b : Blk X ea tg elt ifs scope own t l mt me) (hc : X.calm = true := by rfl) (hs : ∀ x, foldedSetIterable iter X.env x = pure x := by intro _; rfl) :
    Pee X ea Wx (.ListComp elt [⟨tg, iter, ifs, 0⟩] scope pos) (mLc (own.map (·.2)) mi t mt me) := by
  obtain ⟨wi, p, r⟩ := hi.ex
  exact ⟨_, pe_lc hc hN p b.ok (fun s H C cl fp => (b.tg s H C cl fp).can) (fun s H C cl fp => (b.ts s H C cl fp).can) (fun s H C cl fp => (b.el s H C cl fp).can) hs,
    ref_lc r (ref_gOf b.ne) b.sub (ref_ttOf _) (ref_tOf _)⟩
theorem pes_setLc (i : Nat) {y : Str} {py spos : Pos} (hN : X.N.Nodup) (hi : Pei X ea Wx tg iter mi) (b : Blk X ea tg elt ifs scope own t l mt me) (hy : X.N[i]? = some y := by rfl) (hyl : X.env.scope.names.lookup y = some .local := by rfl)
    (hsw : swapsWith (.ListComp elt [⟨tg, iter, ifs, 0⟩] scope pos) (some (.Name y py)) spos.line X.env = pure true := by exact sw_true rfl rfl rfl (by decide +kernel)) (hc : X.calm = true := by rfl) (hs : ∀ x, foldedSetIterable iter X.env x = pure x := by intro _; rfl) :
    Pes X ea Wx (.Assign [.Name y py] (.ListComp elt [⟨tg, iter, ifs, 0⟩] scope pos) spos) (mAsg i (mLc (own.map (·.2)) mi t mt me)) := by
  obtain ⟨wi, p, r⟩ := hi.ex
  exact ⟨_, ps_setLc hc hN hy hyl hsw p b.ok (fun s H C cl fp => (b.tg s H C cl fp).can) (fun s H C cl fp => (b.ts s H C cl fp).can) (fun s H C cl fp => (b.el s H C cl fp).can) hs,
    ref_asg i (ref_lc r (ref_gOf b.ne) b.sub (ref_ttOf _) (ref_tOf _))⟩
end
end
abbrev Fn := List W → List Cell → Option (Except Ex FV × List Cell)
section
variable {K : PySem.W.Frag} {mg : Str → Option Value} {ea : EA} {io io' : List Addr} {Fr Fr' : Addr → Prop} {s s' s2 : S} {σ σ' : L2.St} {H H' : Hp} {w : W} {v : V} {c : Cell} {o : HO} {a p : Addr} {ws : List W} {vs : List V} {M : Addr → Prop}
def PostXF (K : PySem.W.Frag) (mg : Str → Option Value) (io : List Addr) (M Fr : Addr → Prop) (H : Hp) (G' : List Cell) (io' : List Addr) (H' : Hp) (x : Ex) (cls : Value) (d : Option Addr) : Prop :=
  GSim K mg io' Fr G' H' ∧ Stp io M Fr H io' (Mu io' Fr) H' ∧ ExR K mg io' (Mu io' Fr) H' x cls d
def spM (K : PySem.W.Frag) (mg : Str → Option Value) (n : Nat) (m : Fn) : Sp := fun vs H Q E => vs.length = n ∧ ∃ io Fr G ws r G', GSim K mg io Fr G H ∧ Rws K mg io (Mu io Fr) H ws vs ∧ m ws G = some (r, G') ∧
  (∀ f, r = .ok f → ∀ v H' io', PostF K mg io (Mu io Fr) Fr H G' io' H' f v → Q v H') ∧ (∀ x, r = .error x → ∀ cls d H' io', PostXF K mg io (Mu io Fr) Fr H G' io' H' x cls d → E cls d H')
structure FnM (P : Program) (w : World) (K : PySem.W.Frag) (mg : Str → Option Value) (base : Heap) (k : Nat) (f : Addr) (fd : FuncData) (ps : List Str) (m : Fn) : Prop where
  ok : FnOk P w K mg base (L2.CX P w) k f fd ps (spM K mg ps.length m)
def fnM (n : Nat) (body : Mo Fl) : Fn := fun ws G => match body ⟨ws.map SV.val ++ List.replicate (n - ws.length) SV.non, G⟩ with
  | some (.ok (.rt f), s) => some (.ok f, s.G)
  | some (.ok .nx, s) => some (.ok (.val .non), s.G)
  | some (.error x, s) => some (.error x, s.G)
  | _ => none
theorem sim_start {n : Nat} {N : List Str} (hn : N.length = n) (hl : vs.length ≤ n) (g : GSim K mg io Fr s.G H) (r : Rws K mg io (Mu io Fr) H ws vs) : Sim K mg ea io Fr ⟨ws.map SV.val ++ List.replicate (n - ws.length) SV.non, s.G⟩ (L2.start N vs) H ∧
    (∀ b, Ms io Fr ⟨ws.map SV.val ++ List.replicate (n - ws.length) SV.non, s.G⟩ (L2.start N vs) b ↔ Mu io Fr b) := by
  have no : ∀ (i : Nat) (c : Cell), (ws.map SV.val ++ List.replicate (n - ws.length) SV.non)[i]? ≠ some (SV.own c) := fun i c h => by
    rcases Nat.lt_or_ge i (ws.map SV.val).length with q | q
    · rw [List.getElem?_append_left q, List.getElem?_map] at h
      cases e : ws[i]? <;> rw [e] at h <;> cases h
    · rw [List.getElem?_append_right q] at h
      have h2 := List.mem_of_getElem? h
      have h3 := List.eq_of_mem_replicate h2
      cases h3
  have fo : ∀ b, FrO Fr (ws.map SV.val ++ List.replicate (n - ws.length) SV.non) (L2.start N vs) b ↔ Fr b := fun b => ⟨fun z => z.elim id fun ⟨i, c, h, _⟩ => (no i c h).elim, .inl⟩
  have mo : ∀ b, Ms io Fr ⟨ws.map SV.val ++ List.replicate (n - ws.length) SV.non, s.G⟩ (L2.start N vs) b ↔ Mu io Fr b := fun b => ⟨fun z => z.imp id (fo b).1, fun z => z.imp id .inl⟩
  refine ⟨⟨?_, g.less (s := s) fun b z => (fo b).1 z, fun i u e => ?_, fun i c e => (no i c e).elim, fun i j c d a e => (no i c e).elim, fun i y e => ?_⟩, mo⟩
  · simp only [L2.start, List.length_append, List.length_map, List.length_replicate, hn]
    have := r.1
    omega
  · have hi : i < (ws.map SV.val).length := by
      rcases Nat.lt_or_ge i (ws.map SV.val).length with q | q
      · exact q
      · simp only at e
        rw [List.getElem?_append_right q] at e
        have h3 := List.eq_of_mem_replicate (List.mem_of_getElem? e)
        cases h3
    simp only at e
    rw [List.getElem?_append_left hi, List.getElem?_map] at e
    cases q : ws[i]? with
    | none => rw [q] at e; cases e
    | some u' =>
      rw [q] at e
      cases e
      obtain ⟨v, h1, h2⟩ := r.get q
      have hv := get_lt h1
      refine ⟨v, ?_, h2.pers (.less fun b z => (mo b).1 z)⟩
      unfold L2.start
      rw [List.getElem?_append_left (by simpa using hv), List.getElem?_map, h1]
      rfl
  · exfalso
    simp only at e
    rcases Nat.lt_or_ge i (ws.map SV.val).length with q | q
    · rw [List.getElem?_append_left q, List.getElem?_map] at e
      cases k : ws[i]? <;> rw [k] at e <;> cases e
    · rw [List.getElem?_append_right q] at e
      have h3 := List.eq_of_mem_replicate (List.mem_of_getElem? e)
      cases h3
theorem defM {P : Program} {w : World} {base : Heap} {x qual : Str} {st : Stmt} {f : Addr} {fd : FuncData} {N ps : List Str} {k n : Nat} {body : Mo Fl} (F : Fun K x qual st f fd) (S : FnScope N ps (defScope st)) (hn : N.length = n)
    (hb : ∀ (cdv : Value) (A : Around) (outer : List Env) (s : Shared) (H : Hp) (E : XK), Room k (A.deeper (envOfC qual (defScope st) s.heap.objs.size f cdv)) →
      Pess (cxOf (L2.CX P w) P w K mg base N qual (defScope st) f cdv A outer s H E) ea0 (fun cls d _ H => E cls d H) (defBody st) body) : FnM P w K mg base (k + 1) f fd ps (fnM n body) := by
  refine ⟨F.okX S (fun vs H Q E h => h.1) fun cdv A outer s H vs Q E hr h => ?_⟩
  obtain ⟨hl, io, Fr, G, ws, r, G', g, R, e, hok, hex⟩ := h
  obtain ⟨t, p, rf⟩ := (hb cdv A outer s H E hr).ex
  refine ⟨t, p, ?_⟩
  have hps : ps.length ≤ n := by
    have := congrArg List.length S.pre
    rw [List.length_take] at this
    omega
  obtain ⟨S0, mo⟩ := sim_start (ea := ea0) (s := ⟨[], G⟩) hn (by omega) g R
  unfold fnM at e
  have T0 : ∀ {M' : Addr → Prop} {io' : List Addr} {H' : Hp}, Stp io (Ms io Fr ⟨ws.map SV.val ++ List.replicate (n - ws.length) SV.non, G⟩ (L2.start N vs)) Fr H io' M' H' → Stp io (Mu io Fr) Fr H io' M' H' := fun T =>
    (Stp.refl.less fun b z => (mo b).1 z : Stp io (Mu io Fr) Fr H io (Ms io Fr ⟨ws.map SV.val ++ List.replicate (n - ws.length) SV.non, G⟩ (L2.start N vs)) H).trans T
  cases k : body ⟨ws.map SV.val ++ List.replicate (n - ws.length) SV.non, G⟩ with
  | none => rw [k] at e; cases e
  | some pr =>
    obtain ⟨rb, sb⟩ := pr
    rw [k] at e
    refine rf _ _ _ _ _ S0 _ _ k _ (fun q σ' H' io' px => ?_) (fun q σ' H' io' px => ?_) (fun q σ' H' io' px => ?_) (fun f q v H' io' px => ?_) fun xx q cls d σ' H' io' px => ?_
    · subst q
      cases e
      exact hok _ rfl _ _ _ ⟨px.1.g.less (s := sb) fun b z => .inl z, (T0 px.2).less fun b z => z.imp id .inl, .non⟩
    · subst q; cases e
    · subst q; cases e
    · subst q
      cases e
      cases f with
      | val w => exact hok _ rfl v H' io' ⟨px.1, T0 px.2.1, px.2.2⟩
      | own c =>
        obtain ⟨a, o, h1, h2, h3, h4, h5, h6⟩ := px
        exact hok _ rfl v H' io' ⟨a, o, h1, h2, h3, h4, T0 h5, h6⟩
    · subst q
      cases e
      obtain ⟨x1, x2, C, x3, x4, x5⟩ := px
      have le : ∀ b, Mu io' Fr b → Ms io' Fr sb σ' b := fun b z => z.imp id .inl
      refine hex _ rfl cls d H' io' ⟨x1.g.less (s := sb) fun b z => .inl z, (T0 x2).less le, C, x3, x4, x5.imp id ?_⟩
      rintro ⟨dd, us, y1, y2, y3, y4⟩
      exact ⟨dd, us, y1, y2, fun z => y3 (le _ z), y4.pers (.less le)⟩
def rvOf : FV → RV
  | .val w => .val w
  | .own c => .own c
def callG (m : Fn) (ws : List W) : Mo RV := fun s => match m ws s.G with
  | some (.ok f, G') => some (.ok (rvOf f), { s with G := G' })
  | some (.error x, G') => some (.error x, { s with G := G' })
  | none => none
theorem fro_pls {r : List SV} : ∀ b, FrO (pls Fr a) r σ b ↔ pls (FrO Fr r σ) a b := fun b => by
  constructor
  · rintro ((z | z) | z)
    · exact .inl (.inl z)
    · exact .inr z
    · exact .inl (.inr z)
  · rintro ((z | z) | z)
    · exact .inl (.inl z)
    · exact .inr z
    · exact .inl (.inr z)
theorem spM_use {Wx : WX} {n : Nat} {m : Fn} (S0 : Sim K mg ea io Fr s σ H) (R : Rws K mg io (Ms io Fr s σ) H ws vs) (hn : vs.length = n) {r : Except Ex RV} (e : callG m ws s = some (r, s')) {Q : VK}
    (hok : ∀ x, r = .ok x → ∀ v H' io', PostE K mg ea io Fr s σ H s' io' H' x v → Q v H') (hex : ∀ x, r = .error x → ∀ cls d H' io', PostX K mg ea io Fr s σ H s' σ io' H' x cls d → Wx cls d σ H') : spM K mg n m vs H Q (WE Wx σ) := by
  unfold callG at e
  have nown : ∀ a (i : Nat) c, s.r[i]? = some (.own c) → σ[i]? = some (some (V.ref a)) → ¬ Fr a := fun a i c h1 h2 => by
    obtain ⟨b, o, q1, _, _, q4⟩ := S0.own i c h1
    rw [h2] at q1; cases q1
    exact q4
  split at e
  · rename_i f G' k
    cases e
    refine ⟨hn, io, FrO Fr s.r σ, s.G, ws, _, G', S0.g, R, k, fun f' q v H' io' p => ?_, (fun _ q => by cases q)⟩
    cases q
    cases f with
    | val w =>
      obtain ⟨g, T, r⟩ := p
      exact hok _ rfl v H' io' ⟨S0.call g T nown, T.frless fun b z => .inl z, r⟩
    | own c =>
      obtain ⟨a, o, rfl, ha, nf, g, T, r⟩ := p
      have g' : GSim K mg io' (FrO (pls Fr a) s.r σ) G' H' := g.less (s := { s with G := G' }) fun b z => (fro_pls b).1 z
      have le : ∀ b, Mu io' (FrO (pls Fr a) s.r σ) b → Mu io' (pls (FrO Fr s.r σ) a) b := fun b z => z.imp id (fro_pls b).1
      refine hok _ rfl _ H' io' ⟨a, o, rfl, ha, nf, S0.call g' (T.less le) fun b i c h1 h2 z => ?_, (T.less le).frless fun b z => .inl z, r.pers (.less le)⟩
      rcases z with z | z
      · exact nown b i c h1 h2 z
      · subst z
        exact nf (.inr ⟨i, c, h1, h2⟩)
  · rename_i x G' k
    cases e
    refine ⟨hn, io, FrO Fr s.r σ, s.G, ws, _, G', S0.g, R, k, (fun _ q => by cases q), fun x' q cls d H' io' p => ?_⟩
    cases q
    exact hex _ rfl cls d H' io' ⟨S0.call p.1 p.2.1 nown, p.2.1.frless fun b z => .inl z, p.2.2⟩
  · cases e
def mCall (n : Nat) (m : Fn) (ms : Mo (List RV)) : Mo RV := bnd ms fun xs => bnd (freezeAll xs) fun ws => if ws.length = n then callG m ws else stk
theorem ref_call {Wx : WX} {n : Nat} {m : Fn} {ta : TA} {ms : Mo (List RV)} (ha : RefA K mg ea Wx ta ms) : RefE K mg ea Wx (tCallS (spM K mg n m) (WE Wx) ta) (mCall n m ms) := by
  intro σ H io Fr s S0 r0 s' e Q hok hex
  refine arg2 ha S0 e hex fun xs vs s1 H1 io1 e2 px R1 => ?_
  rcases bnd_some e2 with ⟨x, e3, rfl⟩ | ⟨ws, s2, e3, e4⟩
  · obtain ⟨_, _, _, _, q, _⟩ := freezeAll_ok px.1 R1 e3
    cases q
  · obtain ⟨_, m2, S2, ws', q, r2⟩ := freezeAll_ok px.1 R1 e3
    cases q
    split at e4
    · rename_i hn
      have T2 := px.2.less m2
      exact spM_use S2 r2 (by rw [← r2.1]; exact hn) e4 (fun x q v H' io' p => hok x q v H' io' (p.trans T2)) fun x q cls d H' io' p => hex x q cls d H' io' ⟨p.1, T2.trans p.2.1, p.2.2⟩
    · cases e4
end
section
variable {X : Cx} {ea : EA} {Wx : WX} {e : Expr} {es : List Expr} {ms : Mo (List RV)} {m : Fn} {k : Nat} {f : Addr} {fd : FuncData} {ps : List Str} {x : Str} {p pos : Pos}
theorem pee_call (F : FnM X.prog X.w X.K X.mg X.base k f fd ps m) (hr : Room k X.A) (hm : X.mg x = some (.ref f)) (hk : PySem.W.keepIn X.K (.ref f) = true) (hb : Binds X.K fd ps []) (tk : Takes X Wx) (ha : Pea X ea Wx (e :: es) ms)
    (hg : Gl X x := by rfl) (hdb : (x == ("__debug__" : Str)) = false := by decide) (he : starEach (e :: es) X.env = (false, eval e X.env) :: starEach es X.env := by rfl) (hpl : (backTo pos (starEach es X.env)).any (·.1) = false := by rfl) :
    Pee X ea Wx (.Call (.Name x p) (e :: es) [] pos) (mCall ps.length m ms) := by
  obtain ⟨t, q, r⟩ := ha.ex
  exact ⟨_, pe_callS F.ok hr hg hm hk hb (fun σ => passAt tk σ) q hdb he hpl, ref_call r⟩
end
end Z
set_option Elab.async false
set_option linter.all false
set_option maxRecDepth 100000
namespace Z
open PySem PySem.Spec PyProof.Rows L2
section
variable {X : Cx} {CX : CXT} {k : Nat} {f C : Addr} {fd : FuncData} {ps : List Str} {sp : Sp} {dvs : List V} {ds : List Value} {E : L2.St → XK} {x m : Str} {p pos apos : Pos} {e o : Expr} {es : List Expr} {ta : TE} {t : TA}
theorem args_go {g : Addr} {first : List Value} (kp : PySem.W.keepIn X.K (.ref g) = true) (ha : PA X (e :: es) t) (hst : starEach (e :: es) X.env = (false, eval e X.env) :: starEach es X.env) (hpl : (backTo pos (starEach es X.env)).any (·.1) = false)
    {pins : List (Addr × Obj)} {s : Shared} {σ : L2.St} {H : Hp} {Q : Value → Shared → Prop} {T : List V → Hp → Prop} (I : Inv X pins σ H s) (h : t σ H T)
    (go : ∀ us vs s1 H1, Inv X pins σ H1 s1 → Vals vs us → T vs H1 → wpAny (model X.prog X.w) X.A (call (.ref g) (first ++ us)) Q X.xe s1) :
    wpAny (model X.prog X.w) X.A (callWith pos (.ref g) first (backTo pos (starEach (e :: es) X.env)) []) Q X.xe s := by
  apply PySem.W.callWith_K I.ok.mod.kin kp _ hst hpl
  apply thn (ha.run pos pins s σ H _ I h)
  rintro us s1 ⟨vs, H1, J, r, q⟩
  exact ⟨J.kIn, go us vs s1 H1 J r q⟩
theorem run_makeS {pins : List (Addr × Obj)} {σ : L2.St} {H : Hp} {s : Shared} {Q : VK} {us : List Value} {vs : List V} (M : Mk X.K C f) (F : FnOk X.prog X.w X.K X.mg X.base CX k f fd ps sp) (hr : Room (k + 1) X.A) (hb : Binds X.K fd ps ds) (hd : Vals dvs ds)
    (hx : PassesAt CX X σ (E σ)) (I : Inv X pins σ H s) (r : Vals vs us)
    (h : ∀ x dx, H x = none → H dx = none → dx ≠ x → sp (.ref x :: (vs ++ dvs)) (upd (upd H dx (.own x)) x (.ins C dx [])) (fun v H2 => v = .non ∧ Q (.ref x) H2) (E σ)) : wpAny (model X.prog X.w) X.A (call (.ref C) us) (EP X pins σ Q) X.xe s := by
  generalize hn : s.heap.objs.size = n
  have new : ∀ j, n ≤ j → H j = none := fun j le => I.hok.fresh (by rw [hn]; exact le)
  have q := h (n + 1) n (new _ (Nat.le_succ n)) (new _ (Nat.le_refl n)) (Nat.ne_of_lt (Nat.lt_succ_self n))
  have J := Inv.made (C := C) I
  have all : Vals (V.ref (n + 1) :: (vs ++ dvs)) (Value.ref (n + 1) :: (us ++ ds)) := .cons rfl (r.append hd)
  have many : (Value.ref (n + 1) :: us ++ ds).length = ps.length := by simpa using all.length.symm.trans (F.len _ _ _ _ q)
  rw [hn] at J
  have body := F.run _ X.stack _ _ ⟨Value.ref (n + 1) :: us, []⟩ (Value.ref (n + 1) :: (us ++ ds)) _ _ (E σ) (hr.make C us []) (J.env0.make C us []) (hb _ (Value.ref (n + 1) :: us) J.kIn many) all q
  subst hn
  refine wpAny_call (make_map (f := f) I.kIn M.makes M.init (beq_iff_eq.mp M.fn) (codeAny_mono body ?_))
  rintro (er | (_ | _ | _ | u)) s' z
  · exact hx pins _ _ er s' J z
  · exact z.elim
  · exact z.elim
  · exact z.elim
  · obtain ⟨_, H', J', rv, rfl, q'⟩ := J.after z
    exact ⟨rv, V.ref _, H', J', rfl, q'⟩
def tMakeS (C : Addr) (sp : Sp) (dvs : List V) (E : L2.St → XK) (t : TA) : TE := fun σ H Q => t σ H fun vs H1 => ∀ x dx, H1 x = none → H1 dx = none → dx ≠ x → sp (.ref x :: (vs ++ dvs)) (upd (upd H1 dx (.own x)) x (.ins C dx [])) (fun v H2 => v = .non ∧ Q (.ref x) H2) (E σ)
theorem pe_makeS (M : Mk X.K C f) (F : FnOk X.prog X.w X.K X.mg X.base CX k f fd ps sp) (hr : Room (k + 1) X.A) (hg : Gl X x) (hm : X.mg x = some (.ref C)) (hb : Binds X.K fd ps ds) (hd : Vals dvs ds) (hx : ∀ σ, PassesAt CX X σ (E σ))
    (ha : PA X (e :: es) t) (hdb : (x == ("__debug__" : Str)) = false := by decide) (hst : starEach (e :: es) X.env = (false, eval e X.env) :: starEach es X.env := by rfl) (hpl : (backTo pos (starEach es X.env)).any (·.1) = false := by rfl) :
    PE X (.Call (.Name x p) (e :: es) [] pos) (tMakeS C sp dvs E t) :=
  ⟨fun _ _ σ _ _ I h => wpAny_Call_Name_kw (ld_glob I hg hm (args_go M.kp ha hst hpl I h fun _ _ _ _ J r q => run_makeS M F hr hb hd (hx σ) J r q) hdb)⟩
end
section
variable {K : PySem.W.Frag} {mg : Str → Option Value} {ea : EA} {io io' : List Addr} {Fr Fr' : Addr → Prop} {s s' s2 : S} {σ σ' : L2.St} {H H' : Hp} {w : W} {v : V} {c : Cell} {o : HO} {a p C : Addr} {ws : List W} {vs : List V} {M M' : Addr → Prop} {Wx : WX}
def ClsN (K : PySem.W.Frag) (mg : Str → Option Value) (nms : List Str) (f : Str) : Prop := ∀ nm ∈ nms, ∃ C, mg nm = some (.ref C) ∧ Cls K C ∧ NoAttr K C f
def fFld (nms : List Str) (f : Str) : W → Option OR
  | .obj nm fs => if nm ∈ nms then (fs.lookup f).map .imm else none
  | _ => none
def tFldU (K : PySem.W.Frag) (f : Str) : V → Hp → VK → Prop := fun x H Q => ∃ a C dx fs v, x = .ref a ∧ H a = some (.ins C dx fs) ∧ Cls K C ∧ NoAttr K C f ∧ fs.lookup f = some v ∧ Q v H
theorem fld_hr {nms : List Str} {f : Str} (hF : ClsN K mg nms f) : ∀ io M H x vx z Q, Rn K mg io M H x vx → fFld nms f x = some z → OQ K mg io M H z Q → tFldU K f vx H Q := by
  intro io M H x vx z Q rx e q
  unfold fFld at e
  split at e
  · split at e
    · rename_i hin
      obtain ⟨w, e1, rfl⟩ := Option.map_eq_some_iff.mp e
      obtain ⟨a, C, dx, vs, rfl, hm, ha, r⟩ := rx.obj
      obtain ⟨C', hm', hc, hn⟩ := hF _ hin
      rw [hm] at hm'
      cases hm'
      obtain ⟨v, h1, h2⟩ := Rkv.lookup (vs := vs) r e1
      exact ⟨a, C, dx, vs, v, rfl, ha, hc, hn, h1, q v h2⟩
    · cases e
  · cases e
theorem nodup_ixA {N : List Addr} (hN : N.Nodup) {i j : Nat} {x : Addr} (a : N[i]? = some x) (b : N[j]? = some x) : i = j := by
  induction N generalizing i j with
  | nil => simp at a
  | cons y N ih =>
    obtain ⟨h1, h2⟩ := List.nodup_cons.mp hN
    cases i with
    | zero =>
      cases j with
      | zero => rfl
      | succ j =>
        simp at a b
        subst a
        exact absurd (List.mem_of_getElem? b) h1
    | succ i =>
      cases j with
      | zero =>
        simp at a b
        subst b
        exact absurd (List.mem_of_getElem? a) h1
      | succ j =>
        simp at a b
        rw [ih h2 a b]
theorem Sim.setCell {n : Nat} {o' : HO} {c' : Cell} (x : Sim K mg ea io Fr s σ H) (hn : io[n]? = some a) (h : ∀ {H' : Hp}, Pers io (Ms io Fr s σ) H io (Ms io Fr s σ) H' → Rc K mg io (Ms io Fr s σ) H' c' o') :
    Sim K mg ea io Fr { s with G := s.G.set n c' } σ (upd H a o') ∧ Stp io (Ms io Fr s σ) Fr H io (Ms io Fr s σ) (upd H a o') := by
  have ain : a ∈ io := List.mem_of_getElem? hn
  have aM : Ms io Fr s σ a := .inl ain
  have nF : ¬ FrO Fr s.r σ a := x.g.dj a ain
  have q : Pers io (Ms io Fr s σ) H io (Ms io Fr s σ) (upd H a o') := ⟨fun b u e hb => by rw [upd_ne (fun z => by subst z; exact hb aM)]; exact e, fun b z => .inl z, fun _ _ e => e⟩
  refine ⟨⟨x.len, ⟨by simp [x.g.len], fun m b c h1 h2 => ?_, x.g.nd, x.g.dj, fun b z => ?_⟩, fun i w e => ?_, fun i c e => ?_, x.dist, fun i e k => let ⟨h1, h2⟩ := x.exc i e k; ⟨h1, h2.pers q⟩⟩, q, fun b z => ?_, fun b u e => ?_⟩
  · by_cases hm : n = m
    · subst hm
      rw [hn] at h1
      cases h1
      have hl := get_lt h2
      simp only [List.length_set] at hl
      rw [List.getElem?_set_self hl] at h2
      cases h2
      exact ⟨o', upd_same, h q⟩
    · rw [List.getElem?_set_ne hm] at h2
      obtain ⟨u, e, r⟩ := x.g.cell m b c h1 h2
      have nb : b ≠ a := fun z => by
        subst z
        exact hm (nodup_ixA x.g.nd hn h1)
      exact ⟨u, by rw [upd_ne nb]; exact e, r.pers q⟩
  · obtain ⟨u, e, n⟩ := x.g.fr b z
    exact ⟨u, by rw [upd_ne (fun e => by subst e; exact nF z)]; exact e, n⟩
  · obtain ⟨v, h1, h2⟩ := x.val i w e
    exact ⟨v, h1, h2.pers q⟩
  · obtain ⟨b, u, h1, h2, h3, h4⟩ := x.own i c e
    exact ⟨b, u, h1, by rw [upd_ne (fun z => by subst z; exact nF (.inr ⟨i, c, e, h1⟩))]; exact h2, h3.pers q, h4⟩
  · rw [upd_ne (fun e => by subst e; exact nF (.inl z))]
  · by_cases e' : b = a
    · exact ⟨o', by rw [e', upd_same]⟩
    · exact ⟨u, by rw [upd_ne e']; exact e⟩
def putFW (f : Str) (w : W) : List (Str × W) → List (Str × W)
  | [] => [(f, w)]
  | (g, x) :: r => if g = f then (g, w) :: r else (g, x) :: putFW f w r
theorem Rkv.putF {f : Str} (h : Rw K mg io M H w v) : ∀ {ws : List (Str × W)} {vs : List (Str × V)}, Rkv K mg io M H ws vs → Rkv K mg io M H (putFW f w ws) (L2.putF f v vs)
  | [], vs, r => by rw [r.nil_inv]; exact Rkv.cons h Rkv.nil
  | (g, x) :: ws, vs, r => by
    obtain ⟨u, t, rfl, h1, h2⟩ := r.cons_inv
    rw [show putFW f w ((g, x) :: ws) = (if g = f then (g, w) :: ws else (g, x) :: putFW f w ws) from rfl, show L2.putF f v ((g, u) :: t) = (if g = f then (g, v) :: t else (g, u) :: L2.putF f v t) from rfl]
    by_cases e : g = f
    · rw [if_pos e, if_pos e]; exact Rkv.cons h h2
    · rw [if_neg e, if_neg e]; exact Rkv.cons h1 (Rkv.putF h h2)
def putFld (nms : List Str) (f : Str) (w : W) : RV → Mo Fl
  | .val (.ref n) => fun s => match s.G[n]? with
    | some (.ins nm fs) => if nm ∈ nms ∧ fs.length < 1000 then some (.ok .nx, { s with G := s.G.set n (.ins nm (putFW f w fs)) }) else none
    | _ => none
  | _ => stk
def mSetF (nms : List Str) (f : Str) (mo mv : Mo RV) : Mo Fl := bnd mv fun y => bnd (freeze (settle y)) fun wy => bnd mo fun x => putFld nms f wy x
theorem ref_setF {nms : List Str} {f : Str} (hF : ClsN K mg nms f) {ta tv : TE} {mo mv : Mo RV} (ho : RefE K mg ea Wx ta mo) (hv : RefE K mg ea Wx tv mv) : RefS K mg ea Wx (sFld K ta tv f) (mSetF nms f mo mv) := by
  intro σ H io Fr s S0 r0 s' e D hnx hbk hct hrt hex
  refine one2 hv S0 e (fun x q cls d H' io' px => hex x q cls d σ H' io' px) fun y vy s1 H1 io1 e2 px => ?_
  obtain ⟨S1, T1, R1⟩ := px.settled
  rcases bnd_some e2 with ⟨z, e3, _⟩ | ⟨wy, s3, e3, e4⟩
  · obtain ⟨_, _, _, _, q, _⟩ := freeze_ok S1 R1 e3
    cases q
  · obtain ⟨_, l3, S3, w', q, R3⟩ := freeze_ok S1 R1 e3
    cases q
    have T3 := T1.less l3
    refine one2 ho S3 e4 (fun x q cls d H' io' px => hex x q cls d σ H' io' ⟨px.1, T3.trans px.2.1, px.2.2⟩) fun x vx s4 H4 io4 e5 p4 => ?_
    unfold putFld at e5
    split at e5
    · rename_i n
      obtain ⟨S4, T4, R4⟩ := p4
      split at e5
      · rename_i nm fs hG
        split at e5
        · rename_i hc
          cases R4 with
          | ref hn =>
            rename_i a
            obtain ⟨o, ha, C, dx, us, rfl, hm, rk⟩ := S4.g.cell n a _ hn hG
            obtain ⟨C', hm', hcl, hno⟩ := hF _ hc.1
            rw [hm] at hm'
            cases hm'
            have R5 := R3.pers T4.p
            obtain ⟨S5, T5⟩ := S4.setCell (c' := .ins nm (putFW f wy fs)) (o' := .ins C dx (L2.putF f vy us)) hn fun {H'} p => ⟨C, dx, _, rfl, hm, Rkv.putF (R5.pers p) (Rkv.pers p rk)⟩
            refine ⟨a, C, dx, us, rfl, ha, hcl, hno, by rw [← rk.length]; exact hc.2, ?_⟩
            cases e5
            exact hnx rfl _ _ io4 ⟨S5, (T3.trans T4).trans T5⟩
        · cases e5
      · cases e5
    · cases e5
def chk (nm mn : Str) (w : W) : Mo Unit := fun s => match derefW s w with
  | some (.obj nm' fs) => if nm' = nm ∧ fs.lookup mn = none then some (.ok (), s) else none
  | _ => none
def Dfl (K : PySem.W.Frag) (mg : Str → Option Value) (ds : List W) (dvs : List V) : Prop := ∀ io M H, Rws K mg io M H ds dvs
theorem Dfl.nil : Dfl K mg [] [] := fun _ _ _ => Rws.nil
end
section
variable {X : Cx} {ea : EA} {Wx : WX} {e o : Expr} {es : List Expr} {mo mv : Mo RV} {ms : Mo (List RV)} {m : Fn} {k : Nat} {f C : Addr} {fd : FuncData} {ps : List Str} {x nm fl mn : Str} {p pos apos tpos : Pos} {nms : List Str} {ds : List Value} {dw : List W} {dvs : List V}
theorem pee_fld (hF : ClsN X.K X.mg nms fl) (ho : Pee X ea Wx o mo) (hb : attributeBase o fl X.env (eval o X.env) = eval o X.env := by rfl) : Pee X ea Wx (.Attribute o fl pos) (mUn (fFld nms fl) mo) := by
  obtain ⟨t, q, r⟩ := ho.ex
  exact ⟨_, pe_fld q hb, ref_un (r := tFldU X.K fl) (fld_hr hF) r⟩
theorem pes_fld (hF : ClsN X.K X.mg nms fl) (ho : Pee X ea Wx o mo) (hv : Pee X ea Wx e mv) (hs : swapsWith e (some (.Attribute o fl tpos)) pos.line X.env = pure false := by rfl) : Pes X ea Wx (.Assign [.Attribute o fl tpos] e pos) (mSetF nms fl mo mv) := by
  obtain ⟨t, q, r⟩ := ho.ex
  obtain ⟨t', q', r'⟩ := hv.ex
  exact ⟨_, ps_fld q q' hs, ref_setF hF r r'⟩
end
end Z
set_option Elab.async false
set_option linter.all false
set_option maxRecDepth 100000
namespace Z
open PySem PySem.Spec PyProof.Rows L2
mutual
def noRef : W → Bool
  | .ref _ => false
  | .tup ws => noRefs ws
  | .lst ws => noRefs ws
  | .frl ws => noRefs ws
  | .dK kvs => noRefK kvs
  | .dT kvs => noRefT kvs
  | .dF kvs => noRefT kvs
  | .obj _ fs => noRefF fs
  | .slt _ ws => noRefs ws
  | .non => true
  | .bl _ => true
  | .int _ => true
  | .str _ => true
  | .byt _ => true
def noRefs : List W → Bool
  | [] => true
  | w :: ws => noRef w && noRefs ws
def noRefK : List (Key × W) → Bool
  | [] => true
  | (_, w) :: ws => noRef w && noRefK ws
def noRefT : List (List Key × W) → Bool
  | [] => true
  | (_, w) :: ws => noRef w && noRefT ws
def noRefF : List (Str × W) → Bool
  | [] => true
  | (_, w) :: ws => noRef w && noRefF ws
end
theorem noRefs_get : ∀ {ws : List W} {i : Nat} {w : W}, noRefs ws = true → ws[i]? = some w → noRef w = true
  | [], i, w, h, e => by simp at e
  | x :: ws, 0, w, h, e => by simp at e; subst e; simp [noRefs] at h; exact h.1
  | x :: ws, i + 1, w, h, e => by simp [noRefs] at h; exact noRefs_get h.2 (by simpa using e)
theorem noRefK_get : ∀ {ws : List (Key × W)} {i : Nat} {w : W}, noRefK ws = true → (ws.map (·.2))[i]? = some w → noRef w = true
  | [], i, w, h, e => by simp at e
  | x :: ws, 0, w, h, e => by simp at e; subst e; simp [noRefK] at h; exact h.1
  | x :: ws, i + 1, w, h, e => by simp [noRefK] at h; exact noRefK_get (i := i) h.2 (by simpa using e)
theorem noRefT_get : ∀ {ws : List (List Key × W)} {i : Nat} {w : W}, noRefT ws = true → (ws.map (·.2))[i]? = some w → noRef w = true
  | [], i, w, h, e => by simp at e
  | x :: ws, 0, w, h, e => by simp at e; subst e; simp [noRefT] at h; exact h.1
  | x :: ws, i + 1, w, h, e => by simp [noRefT] at h; exact noRefT_get (i := i) h.2 (by simpa using e)
theorem noRefF_get : ∀ {ws : List (Str × W)} {i : Nat} {w : W}, noRefF ws = true → (ws.map (·.2))[i]? = some w → noRef w = true
  | [], i, w, h, e => by simp at e
  | x :: ws, 0, w, h, e => by simp at e; subst e; simp [noRefF] at h; exact h.1
  | x :: ws, i + 1, w, h, e => by simp [noRefF] at h; exact noRefF_get (i := i) h.2 (by simpa using e)
def Cell.noRef : Cell → Bool
  | .lst ws => noRefs ws
  | .dK kvs => noRefK kvs
  | .dT kvs => noRefT kvs
  | .ins _ fs => noRefF fs
section
variable {K : PySem.W.Frag} {mg : Str → Option Value} {ea : EA} {io io' : List Addr} {Fr Fr' : Addr → Prop} {s s' s2 : S} {σ σ' : L2.St} {H H' : Hp} {w : W} {v : V} {c : Cell} {o : HO} {a p C : Addr} {ws : List W} {vs : List V} {M M' : Addr → Prop} {Wx : WX}
theorem Rw.noRef (h : Rw K mg io M H w v) (n : Z.noRef w = true) : Rw K mg io' M H w v := by
  induction h with
  | non => exact .non
  | bl b => exact .bl b
  | int i => exact .int i
  | str x => exact .str x
  | byt b => exact .byt b
  | tup h l q ih => exact .tup h l fun i w v a b => ih i w v a b (noRefs_get (by simpa [Z.noRef] using n) a)
  | frl h l q ih => exact .frl h l fun i w v a b => ih i w v a b (noRefs_get (by simpa [Z.noRef] using n) a)
  | lst h k l q ih => exact .lst h k l fun i w v a b => ih i w v a b (noRefs_get (by simpa [Z.noRef] using n) a)
  | dK h k l q ih => exact .dK h k l fun i w v a b => ih i w v a b (noRefK_get (by simpa [Z.noRef] using n) a)
  | dT h k l q ih => exact .dT h k l fun i w v a b => ih i w v a b (noRefT_get (by simpa [Z.noRef] using n) a)
  | dF h k l q ih => exact .dF h k l fun i w v a b => ih i w v a b (noRefT_get (by simpa [Z.noRef] using n) a)
  | obj m h k l q ih => exact .obj m h k l fun i w v a b => ih i w v a b (noRefF_get (by simpa [Z.noRef] using n) a)
  | slt m h k h2 k2 l q ih => exact .slt m h k h2 k2 l fun i w v a b => ih i w v a b (noRefs_get (by simpa [Z.noRef] using n) a)
  | ref h => simp [Z.noRef] at n
theorem Rc.noRef (h : Rc K mg io M H c o) (n : c.noRef = true) : Rc K mg io' M H c o := by
  cases c with
  | lst ws => obtain ⟨vs, e, h⟩ := h; exact ⟨vs, e, h.1, fun i w v a b => (h.2 i w v a b).noRef (noRefs_get n a)⟩
  | dK ws => obtain ⟨vs, e, h⟩ := h; exact ⟨vs, e, h.1, h.2.1, fun i w v a b => (h.2.2 i w v a b).noRef (noRefK_get n a)⟩
  | dT ws => obtain ⟨vs, e, h⟩ := h; exact ⟨vs, e, h.1, h.2.1, fun i w v a b => (h.2.2 i w v a b).noRef (noRefT_get n a)⟩
  | ins nm ws => obtain ⟨C, dx, vs, e, m, h⟩ := h; exact ⟨C, dx, vs, e, m, h.1, h.2.1, fun i w v a b => (h.2.2 i w v a b).noRef (noRefF_get n a)⟩
theorem child {α β : Type} {l1 : List α} {l2 : List β} (l : l1.length = l2.length) {i : Nat} {x : α} (a : l1[i]? = some x) : ∃ y, l2[i]? = some y :=
  ⟨_, List.getElem?_eq_getElem (by rw [← l]; exact get_lt a)⟩
theorem keys_len {κ α β : Type} {l1 : List (κ × α)} {l2 : List (κ × β)} (l : l1.map (·.1) = l2.map (·.1)) : (l1.map (·.2)).length = (l2.map (·.2)).length := by
  have := congrArg List.length l
  simpa using this
theorem Rw.shrink {more : List Addr} {H0 : Hp} {M0 : Addr → Prop} {v0 : V} (h0 : Rw K mg io M0 H0 w v0) : ∀ {v : V}, Rw K mg (io ++ more) M H w v → Rw K mg io M H w v := by
  induction h0 with
  | non => intro v h; cases h; exact .non
  | bl b => intro v h; cases h; exact .bl b
  | int i => intro v h; cases h; exact .int i
  | str x => intro v h; cases h; exact .str x
  | byt b => intro v h; cases h; exact .byt b
  | tup h l q ih =>
    intro v h'
    cases h' with
    | tup k1 k2 k3 =>
      refine .tup k1 k2 fun i w v a b => ?_
      obtain ⟨u, hu⟩ := child l a
      exact ih i w u a hu (k3 i w v a b)
  | frl h l q ih =>
    intro v h'
    cases h' with
    | frl k1 k2 k3 =>
      refine .frl k1 k2 fun i w v a b => ?_
      obtain ⟨u, hu⟩ := child l a
      exact ih i w u a hu (k3 i w v a b)
  | lst h n l q ih =>
    intro v h'
    cases h' with
    | lst k0 k1 k2 k3 =>
      refine .lst k0 k1 k2 fun i w v a b => ?_
      obtain ⟨u, hu⟩ := child l a
      exact ih i w u a hu (k3 i w v a b)
  | dK h n l q ih =>
    intro v h'
    cases h' with
    | dK k0 k1 k2 k3 =>
      refine .dK k0 k1 k2 fun i w v a b => ?_
      obtain ⟨u, hu⟩ := child (keys_len l) a
      exact ih i w u a hu (k3 i w v a b)
  | dT h n l q ih =>
    intro v h'
    cases h' with
    | dT k0 k1 k2 k3 =>
      refine .dT k0 k1 k2 fun i w v a b => ?_
      obtain ⟨u, hu⟩ := child (keys_len l) a
      exact ih i w u a hu (k3 i w v a b)
  | dF h n l q ih =>
    intro v h'
    cases h' with
    | dF k0 k1 k2 k3 =>
      refine .dF k0 k1 k2 fun i w v a b => ?_
      obtain ⟨u, hu⟩ := child (keys_len l) a
      exact ih i w u a hu (k3 i w v a b)
  | obj m h n l q ih =>
    intro v h'
    cases h' with
    | obj k00 k0 k1 k2 k3 =>
      refine .obj k00 k0 k1 k2 fun i w v a b => ?_
      obtain ⟨u, hu⟩ := child (keys_len l) a
      exact ih i w u a hu (k3 i w v a b)
  | slt m h n h2 n2 l q ih =>
    intro v h'
    cases h' with
    | slt k0 k1 k2 k3 k4 k5 k6 =>
      refine .slt k0 k1 k2 k3 k4 k5 fun i w v a b => ?_
      obtain ⟨u, hu⟩ := child l a
      exact ih i w u a hu (k6 i w v a b)
  | ref h =>
    intro v h'
    cases h' with
    | ref k =>
      rw [List.getElem?_append_left (get_lt h)] at k
      exact .ref k
theorem Rws.shrink {more : List Addr} {H0 : Hp} {M0 : Addr → Prop} {vs0 : List V} (h0 : Rws K mg io M0 H0 ws vs0) (h : Rws K mg (io ++ more) M H ws vs) : Rws K mg io M H ws vs := ⟨h.1, fun i w v a b => by
  obtain ⟨u, _, r⟩ := h0.get a
  exact r.shrink (h.2 i w v a b)⟩
theorem Rc.shrink {more : List Addr} {H0 : Hp} {M0 : Addr → Prop} {o0 : HO} (h0 : Rc K mg io M0 H0 c o0) (h : Rc K mg (io ++ more) M H c o) : Rc K mg io M H c o := by
  cases c with
  | lst ws => obtain ⟨vs, e, h⟩ := h; obtain ⟨vs0, _, h0⟩ := h0; exact ⟨vs, e, h0.shrink h⟩
  | dK ws => obtain ⟨vs, e, h⟩ := h; obtain ⟨vs0, _, h0⟩ := h0; exact ⟨vs, e, h.1, h0.2.shrink h.2⟩
  | dT ws => obtain ⟨vs, e, h⟩ := h; obtain ⟨vs0, _, h0⟩ := h0; exact ⟨vs, e, h.1, h0.2.shrink h.2⟩
  | ins nm ws => obtain ⟨C, dx, vs, e, m, h⟩ := h; obtain ⟨_, _, _, _, _, h0⟩ := h0; exact ⟨C, dx, vs, e, m, h.1, h0.2.shrink h.2⟩
theorem GSim.pop {G : List Cell} (g0 : GSim K mg io Fr G H) (g : GSim K mg (io ++ [a]) Fr' (G ++ [c]) H') (h : ∀ b, Fr b → Fr' b) (m : ∀ b, Mu io Fr' b → Mu io Fr b) : GSim K mg io Fr' G H' where
  len := g0.len
  cell := fun n b c' h1 h2 => by
    obtain ⟨o, e, r⟩ := g.cell n b c' (by rw [List.getElem?_append_left (get_lt h1)]; exact h1) (by rw [List.getElem?_append_left (get_lt h2)]; exact h2)
    obtain ⟨o0, _, r0⟩ := g0.cell n b c' h1 h2
    exact ⟨o, e, r0.shrink (r.pers (.less fun x z => z.imp (fun z => List.mem_append_left _ z) id))⟩
  nd := g0.nd
  dj := fun x hx => g.dj x (List.mem_append_left _ hx)
  fr := g.fr
open Classical in
noncomputable def makeG (nm : Str) (m : Fn) (ws : List W) : Mo RV := fun s => match m (.ref s.G.length :: ws) (s.G ++ [.ins nm []]) with
  | some (.ok (.val .non), G') => match G'.drop s.G.length with
    | [c] => if G'.take s.G.length = s.G ∧ c.noRef = true then some (.ok (.own c), s) else none
    | _ => none
  | some (.error x, G') => if G'.take s.G.length = s.G ∧ noRefF x.fs = true ∧ G'.length = s.G.length + 1 then some (.error x, s) else none
  | _ => none
theorem Sim.pushIns {x dx : Addr} {nm : Str} (S0 : Sim K mg ea io Fr s σ H) (hC : mg nm = some (.ref C)) (hx : H x = none) (hdx : H dx = none) (ne : dx ≠ x) :
    GSim K mg (io ++ [x]) (FrO Fr s.r σ) (s.G ++ [.ins nm []]) (upd (upd H dx (.own x)) x (.ins C dx [])) ∧ Stp io (Ms io Fr s σ) (FrO Fr s.r σ) H (io ++ [x]) (Mu (io ++ [x]) (FrO Fr s.r σ)) (upd (upd H dx (.own x)) x (.ins C dx [])) := by
  have kp : ∀ b u, H b = some u → upd (upd H dx (.own x)) x (.ins C dx []) b = some u := fun b u e => by
    rw [upd_ne (ne_of_none e hx), upd_ne (ne_of_none e hdx)]; exact e
  have same : ∀ b, Ms io Fr s σ b → upd (upd H dx (.own x)) x (.ins C dx []) b = H b := fun b z => by
    obtain ⟨u, e⟩ := S0.trk z
    rw [kp b u e, e]
  have nM : ¬ Ms io Fr s σ x := fun z => by
    obtain ⟨u, e⟩ := S0.trk z
    rw [hx] at e; cases e
  have q : Pers io (Ms io Fr s σ) H (io ++ [x]) (Mu (io ++ [x]) (FrO Fr s.r σ)) (upd (upd H dx (.own x)) x (.ins C dx [])) := ⟨fun b u e _ => kp b u e, fun b z => by
    rcases z with z | z
    · rcases List.mem_append.mp z with z | z
      · exact .inl (.inl z)
      · rw [List.mem_singleton] at z; exact .inr (by rw [z]; exact hx)
    · exact .inl (.inr z), fun n b e => by rw [List.getElem?_append_left (get_lt e)]; exact e⟩
  refine ⟨⟨by simp [S0.g.len], fun n b c h1 h2 => ?_, ?_, fun b hb z => ?_, fun b z => ?_⟩, q, fun b z => same b (.inr z), fun b u e => ⟨u, kp b u e⟩⟩
  · rcases Nat.lt_or_ge n io.length with hl | hl
    · rw [List.getElem?_append_left hl] at h1
      rw [List.getElem?_append_left (by rw [← S0.g.len]; exact hl)] at h2
      obtain ⟨u, e, r⟩ := S0.g.cell n b c h1 h2
      exact ⟨u, kp b u e, r.pers q⟩
    · rw [List.getElem?_append_right hl] at h1
      rw [List.getElem?_append_right (by rw [← S0.g.len]; exact hl), ← S0.g.len] at h2
      have e0 : n - io.length = 0 := by
        have := get_lt h1
        simpa using this
      rw [e0] at h1 h2
      simp at h1 h2
      subst h1; subst h2
      exact ⟨_, upd_same, C, dx, [], rfl, hC, Rkv.nil⟩
  · rw [List.nodup_append]
    refine ⟨S0.g.nd, by simp, fun b hb c hc => ?_⟩
    rw [List.mem_singleton] at hc
    subst hc
    exact fun z => nM (.inl (z ▸ hb))
  · rcases List.mem_append.mp hb with h | h
    · exact S0.g.dj b h z
    · rw [List.mem_singleton] at h
      subst h
      exact nM (.inr z)
  · obtain ⟨u, e, n⟩ := S0.g.fr b z
    exact ⟨u, kp b u e, n⟩
theorem make_use {n : Nat} {m : Fn} {nm : Str} {x dx : Addr} (S0 : Sim K mg ea io Fr s σ H) (R : Rws K mg io (Ms io Fr s σ) H ws vs) (hn : vs.length + 1 = n) (hC : mg nm = some (.ref C)) (hx : H x = none) (hdx : H dx = none) (ne : dx ≠ x)
    {r : Except Ex RV} (e : makeG nm m ws s = some (r, s')) {Q : VK}
    (hok : ∀ x, r = .ok x → ∀ v H' io', PostE K mg ea io Fr s σ H s' io' H' x v → Q v H') (hex : ∀ x, r = .error x → ∀ cls d H' io', PostX K mg ea io Fr s σ H s' σ io' H' x cls d → Wx cls d σ H') :
    spM K mg n m (.ref x :: vs) (upd (upd H dx (.own x)) x (.ins C dx [])) (fun v H2 => v = .non ∧ Q (.ref x) H2) (WE Wx σ) := by
  obtain ⟨g1, T1⟩ := S0.pushIns hC hx hdx ne
  have R1 : Rws K mg (io ++ [x]) (Mu (io ++ [x]) (FrO Fr s.r σ)) (upd (upd H dx (.own x)) x (.ins C dx [])) (.ref s.G.length :: ws) (.ref x :: vs) :=
    Rws.cons (.ref (by rw [← S0.g.len, List.getElem?_append_right (Nat.le_refl _)]; simp)) (R.pers T1.p)
  have nown : ∀ a (i : Nat) c, s.r[i]? = some (.own c) → σ[i]? = some (some (V.ref a)) → ¬ Fr a := fun a i c h1 h2 => by
    obtain ⟨b, o, q1, _, _, q4⟩ := S0.own i c h1
    rw [h2] at q1; cases q1
    exact q4
  have nFx : ¬ FrO Fr s.r σ x := g1.dj x (by simp)
  unfold makeG at e
  have last : ∀ {G' : List Cell} {io' : List Addr} {H' : Hp}, GSim K mg io' (FrO Fr s.r σ) G' H' → Stp (io ++ [x]) (Mu (io ++ [x]) (FrO Fr s.r σ)) (FrO Fr s.r σ) (upd (upd H dx (.own x)) x (.ins C dx [])) io' (Mu io' (FrO Fr s.r σ)) H' →
      G'.length = s.G.length + 1 → G'.take s.G.length = s.G → ∃ c, G' = s.G ++ [c] ∧ io' = io ++ [x] := fun {G' io' H'} g T hl ht => by
    have hl2 : io'.length = io.length + 1 := by rw [g.len, hl, S0.g.len]
    refine ⟨G'[s.G.length]'(by omega), ?_, ?_⟩
    · conv => lhs; rw [← List.take_append_drop s.G.length G', ht]
      congr 1
      rw [drop_get (by omega), List.drop_eq_nil_of_le (by omega)]
    · apply List.ext_getElem?
      intro i
      rcases Nat.lt_or_ge i (io ++ [x]).length with q | q
      · rw [List.getElem?_eq_getElem q]
        exact T.p.ext i _ (List.getElem?_eq_getElem q)
      · rw [List.getElem?_eq_none (by simp only [List.length_append, List.length_singleton] at q; omega), List.getElem?_eq_none q]
  split at e
  · rename_i G' k
    split at e
    · rename_i c hd
      split at e
      · rename_i hc
        cases e
        refine ⟨by simpa using hn, io ++ [x], FrO Fr s.r σ, _, _, _, G', g1, R1, k, fun f q v H' io' p => ?_, (fun _ q => by cases q)⟩
        cases q
        obtain ⟨g, T, r⟩ := p
        cases r
        refine ⟨rfl, ?_⟩
        have hl : G'.length = s.G.length + 1 := by
          have := congrArg List.length hd
          simp only [List.length_drop, List.length_singleton] at this
          omega
        obtain ⟨c', hG, rfl⟩ := last g T hl hc.1
        have hcc : c' = c := by
          rw [hG, List.drop_left] at hd
          simpa using hd
        subst hcc
        subst hG
        obtain ⟨o, ho, rc⟩ := g.cell io.length x c' (by rw [List.getElem?_append_right (Nat.le_refl _)]; simp) (by rw [S0.g.len, List.getElem?_append_right (Nat.le_refl _)]; simp)
        have le : ∀ b, Mu io (FrO (pls Fr x) s.r σ) b → Mu (io ++ [x]) (FrO Fr s.r σ) b := fun b z => by
          rcases z with z | z
          · exact .inl (List.mem_append_left _ z)
          · rcases (fro_pls b).1 z with z | z
            · exact .inr z
            · exact .inl (by rw [z]; simp)
        have ge : ∀ b, Mu (io ++ [x]) (FrO Fr s.r σ) b → Mu io (pls (FrO Fr s.r σ) x) b := fun b z => by
          rcases z with z | z
          · rcases List.mem_append.mp z with z | z
            · exact .inl z
            · rw [List.mem_singleton] at z; exact .inr (.inr z)
          · exact .inr (.inl z)
        have gp : GSim K mg io (FrO (pls Fr x) s.r σ) s.G H' := by
          refine ⟨S0.g.len, fun n b c2 h1 h2 => ?_, S0.g.nd, fun b hb z => ?_, fun b z => ?_⟩
          · obtain ⟨u, e1, r1⟩ := g.cell n b c2 (by rw [List.getElem?_append_left (get_lt h1)]; exact h1) (by rw [List.getElem?_append_left (get_lt h2)]; exact h2)
            obtain ⟨u0, _, r0⟩ := S0.g.cell n b c2 h1 h2
            exact ⟨u, e1, r0.shrink (r1.pers (.less le))⟩
          · rcases (fro_pls b).1 z with z | z
            · exact S0.g.dj b hb z
            · subst z
              have := g.nd
              rw [List.nodup_append] at this
              exact this.2.2 b hb b (by simp) rfl
          · rcases (fro_pls b).1 z with z | z
            · exact g.fr b z
            · exact ⟨o, by rw [z]; exact ho, rc.nt⟩
        have TT := T1.trans T
        have T2 : Stp io (Ms io Fr s σ) (FrO Fr s.r σ) H io (Mu io (FrO (pls Fr x) s.r σ)) H' := ⟨⟨TT.p.keep, fun b z => TT.p.new b (le b z), fun _ _ e => e⟩, TT.fr, TT.trk⟩
        refine hok _ rfl _ H' io ⟨x, o, rfl, ho, nFx, S0.call gp T2 fun b i c2 h1 h2 z => ?_, T2.frless fun b z => .inl z, (rc.pers (.less le)).noRef hc.2⟩
        rcases z with z | z
        · exact nown b i c2 h1 h2 z
        · subst z
          exact nFx (.inr ⟨i, c2, h1, h2⟩)
      · cases e
    · cases e
  · rename_i xx G' k
    split at e
    · rename_i hc
      cases e
      refine ⟨by simpa using hn, io ++ [x], FrO Fr s.r σ, _, _, _, G', g1, R1, k, (fun _ q => by cases q), fun x' q cls d H' io' p => ?_⟩
      cases q
      obtain ⟨g, T, xr⟩ := p
      obtain ⟨c', hG, rfl⟩ := last g T hc.2.2 hc.1
      subst hG
      have le : ∀ b, Mu io (FrO Fr s.r σ) b → Mu (io ++ [x]) (FrO Fr s.r σ) b := fun b z => z.imp (fun z => List.mem_append_left _ z) id
      have gp : GSim K mg io (FrO Fr s.r σ) s.G H' := S0.g.pop g (fun _ z => z) fun b z => z
      have TT := T1.trans T
      have T2 : Stp io (Ms io Fr s σ) (FrO Fr s.r σ) H io (Mu io (FrO Fr s.r σ)) H' := ⟨⟨TT.p.keep, fun b z => TT.p.new b (le b z), fun _ _ e => e⟩, TT.fr, TT.trk⟩
      refine hex _ rfl cls d H' io ⟨S0.call gp T2 nown, T2.frless fun b z => .inl z, ?_⟩
      obtain ⟨C2, y1, y2, y3⟩ := xr
      refine ⟨C2, y1, y2, y3.imp id ?_⟩
      rintro ⟨dd, us, z1, z2, z3, z4⟩
      exact ⟨dd, us, z1, z2, fun z => z3 (le _ z), z4.1, z4.2.1, fun i w v a b => ((z4.2.2 i w v a b).pers (.less le)).noRef (noRefF_get hc.2.1 a)⟩
    · cases e
  · cases e
noncomputable def mMake (nm : Str) (n : Nat) (m : Fn) (ds : List W) (ms : Mo (List RV)) : Mo RV := bnd ms fun xs => bnd (freezeAll xs) fun ws => if (ws ++ ds).length + 1 = n then makeG nm m (ws ++ ds) else stk
theorem ref_make {n : Nat} {m : Fn} {nm : Str} {t : TA} {ms : Mo (List RV)} {ds : List W} {dvs : List V} (hC : mg nm = some (.ref C)) (hd : Dfl K mg ds dvs) (ha : RefA K mg ea Wx t ms) :
    RefE K mg ea Wx (tMakeS C (spM K mg n m) dvs (WE Wx) t) (mMake nm n m ds ms) := by
  intro σ H io Fr s S0 r0 s' e Q hok hex
  refine arg2 ha S0 e hex fun xs vs s1 H1 io1 e2 px R1 => ?_
  rcases bnd_some e2 with ⟨x, e3, rfl⟩ | ⟨ws, s2, e3, e4⟩
  · obtain ⟨_, _, _, _, q, _⟩ := freezeAll_ok px.1 R1 e3
    cases q
  · obtain ⟨_, m2, S2, ws', q, r2⟩ := freezeAll_ok px.1 R1 e3
    cases q
    split at e4
    · rename_i hn
      intro x dx hx hdx ne
      have T2 := px.2.less m2
      have RR := r2.append (hd io1 _ H1)
      exact make_use S2 RR (by rw [← RR.1]; exact hn) hC hx hdx ne e4 (fun x q v H' io' p => hok x q v H' io' (p.trans T2)) fun x q cls d H' io' p => hex x q cls d H' io' ⟨p.1, T2.trans p.2.1, p.2.2⟩
    · cases e4
end
section
variable {X : Cx} {ea : EA} {Wx : WX} {e o : Expr} {es : List Expr} {mo mv : Mo RV} {ms : Mo (List RV)} {m : Fn} {k : Nat} {f C : Addr} {fd : FuncData} {ps : List Str} {x : Str} {p pos apos tpos : Pos} {ds : List Value} {dw : List W} {dvs : List V}
theorem pee_make (hC : X.mg x = some (.ref C)) (M : Mk X.K C f) (F : FnM X.prog X.w X.K X.mg X.base k f fd ps m) (hr : Room (k + 1) X.A) (hb : Binds X.K fd ps ds) (hd : Vals dvs ds) (hw : Dfl X.K X.mg dw dvs) (tk : Takes X Wx) (ha : Pea X ea Wx (e :: es) ms) (hg : Gl X x := by rfl)
    (hdb : (x == ("__debug__" : Str)) = false := by decide) (he : starEach (e :: es) X.env = (false, eval e X.env) :: starEach es X.env := by rfl) (hpl : (backTo pos (starEach es X.env)).any (·.1) = false := by rfl) :
    Pee X ea Wx (.Call (.Name x p) (e :: es) [] pos) (mMake x ps.length m dw ms) := by
  obtain ⟨t, q, r⟩ := ha.ex
  exact ⟨_, pe_makeS M F.ok hr hg hC hb hd (fun σ => passAt tk σ) q hdb he hpl, ref_make hC hw r⟩
end
end Z
set_option Elab.async false
set_option linter.all false
set_option maxRecDepth 100000
namespace Z
open PySem PySem.Spec PyProof.Rows L2
section
variable {K : PySem.W.Frag} {mg : Str → Option Value} {ea : EA} {io io' : List Addr} {Fr Fr' : Addr → Prop} {s s' s2 : S} {σ σ' : L2.St} {H H' : Hp} {w : W} {v : V} {c : Cell} {o : HO} {a p C : Addr} {ws : List W} {vs : List V} {M M' : Addr → Prop} {Wx : WX}
def spXI (K : PySem.W.Frag) (fs : List Str) : Sp := fun vs H Q _ => ∃ (a C : Addr) (us : List V), vs = .ref a :: us ∧ us.length = fs.length ∧ H a = some (exo a C none) ∧ OexC K C ∧ (∀ f ∈ fs, PySem.W.findIn K (.ref C) f = some none) ∧
  ∀ dx H', H dx = none → dx ≠ a → H' a = some (exo a C (some dx)) → H' dx = some (exd dx (fs.zip us).reverse) → (∀ b, b ≠ a → b ≠ dx → H' b = H b) → Q .non H'
section
variable {P : Program} {w : World} {base : Heap} {x qual : Str} {st : Stmt} {f : Addr} {fd : FuncData} {N : List Str} {f1 f2 f3 n1 n2 n3 : Str}
theorem xi1 (F : Fun K x qual st f fd) (S : FnScope ["self", n1] ["self", n1] (defScope st))
    (hb : ∀ (cdv : Value) (A : Around) (outer : List Env) (s : Shared) (H : Hp) (E : XK), Room 0 (A.deeper (envOfC qual (defScope st) s.heap.objs.size f cdv)) →
      PSs (cxOf (L2.CX P w) P w K mg base ["self", n1] qual (defScope st) f cdv A outer s H E) (defBody st) (tOst K f1 (tVar 0) (tVar 1))) : FnOk P w K mg base (L2.CX P w) 1 f fd ["self", n1] (spXI K [f1]) := by
  refine F.okX S (fun vs H Q E h => ?_) fun cdv A outer s H vs Q E hr h => ?_
  · obtain ⟨a, C, us, rfl, hl, _⟩ := h
    simpa using hl
  · obtain ⟨a, C, us, rfl, hl, ha, T, hf, q⟩ := h
    obtain ⟨u, rfl⟩ : ∃ u, us = [u] := by
      match us, hl with
      | [u], _ => exact ⟨u, rfl⟩
    refine ⟨_, hb cdv A outer s H E hr, _, rfl, _, rfl, a, C, rfl, T, hf _ (by simp), .inl ⟨ha, fun dx hd ne => ?_⟩⟩
    exact q dx _ hd ne (by rw [upd_same]) (by rw [upd_ne ne, upd_same]; rfl) fun b h1 h2 => by rw [upd_ne h1, upd_ne h2]
end
def mRaise (nm : Str) (fs : List Str) (ms : Mo (List RV)) : Mo Fl := bnd ms fun xs => bnd (freezeAll xs) fun ws => if ws.length = fs.length ∧ ws.length ≤ 1000 then raiseM ⟨nm, (fs.zip ws).reverse⟩ else stk
def mRaise0 (nm : Str) : Mo Fl := raiseM ⟨nm, []⟩
theorem Rkv.append {κ : Type} {ws ws' : List (κ × W)} {vs vs' : List (κ × V)} (h : Rkv K mg io M H ws vs) (t : Rkv K mg io M H ws' vs') : Rkv K mg io M H (ws ++ ws') (vs ++ vs') :=
  ⟨by simp [h.1, t.1], by simpa using h.2.append t.2⟩
theorem Rkv.zipRev : ∀ {fs : List Str} {ws : List W} {vs : List V}, ws.length = fs.length → Rws K mg io M H ws vs → Rkv K mg io M H (fs.zip ws).reverse (fs.zip vs).reverse
  | [], ws, vs, hl, r => by simp; exact Rkv.nil
  | f :: fs, [], vs, hl, r => by simp at hl
  | f :: fs, w :: ws, vs, hl, r => by
    obtain ⟨v, t, rfl, h1, h2⟩ := r.cons_inv
    simp only [List.zip_cons_cons, List.reverse_cons]
    exact (Rkv.zipRev (by simpa using hl) h2).append (Rkv.cons h1 Rkv.nil)
theorem ref_raise {nm : Str} {fs : List Str} {ta : TA} {ms : Mo (List RV)} (hC : mg nm = some (.ref C)) (T : OexC K C) (hf : ∀ f ∈ fs, PySem.W.findIn K (.ref C) f = some none) (ha : RefA K mg ea Wx ta ms) (nz : fs ≠ []) :
    RefS K mg ea Wx (fun _ σ H => tMkO C (spXI K fs) [] ta σ H fun cls d H' => Wx cls d σ H') (mRaise nm fs ms) := by
  intro σ H io Fr s S0 r0 s' e D hnx hbk hct hrt hex
  refine arg2 ha S0 e (fun x q cls d H' io' px => hex x q cls d σ H' io' px) fun xs vs s1 H1 io1 e2 px R1 => ?_
  rcases bnd_some e2 with ⟨x, e3, rfl⟩ | ⟨ws, s2, e3, e4⟩
  · obtain ⟨_, _, _, _, q, _⟩ := freezeAll_ok px.1 R1 e3
    cases q
  · obtain ⟨_, m2, S2, ws', q, r2⟩ := freezeAll_ok px.1 R1 e3
    cases q
    split at e4
    · rename_i hn
      cases e4
      refine ⟨by rw [← r2.1]; exact hn.2, fun a ha => ⟨a, C, vs, by simp, by rw [← r2.1]; exact hn.1, upd_same, T, hf, fun dx H' hd ne e1 e2 e3 => ⟨rfl, dx, _, e1, e2, ?_, ?_⟩⟩⟩
      · rw [upd_ne ne] at hd; exact hd
      · have hd1 : H1 dx = none := by rw [upd_ne ne] at hd; exact hd
        have eH : upd (del H' a) dx (.xd (fs.zip vs).reverse) = upd H1 dx (.xd (fs.zip vs).reverse) := by
          funext b
          by_cases hb : b = dx
          · subst hb; rw [upd_same, upd_same]
          · rw [upd_ne hb, upd_ne hb]
            by_cases hba : b = a
            · subst hba; rw [del_same, ha]
            · rw [del_ne hba, e3 b hba hb, upd_ne hba]
        rw [eH]
        obtain ⟨S3, T3⟩ := S2.laid (o := .xd (fs.zip vs).reverse) hd1
        refine hex _ rfl _ _ σ _ io1 ⟨S3, (px.2.less m2).trans T3, C, hC, rfl, .inr ⟨dx, _, rfl, upd_same, fun z => ?_, Rkv.zipRev hn.1 (r2.pers T3.p)⟩⟩
        obtain ⟨u, e⟩ := S2.trk z
        rw [hd1] at e; cases e
    · cases e4
theorem ref_raise0 {nm : Str} (hC : mg nm = some (.ref C)) : RefS K mg ea Wx (fun _ σ H => (fun (_ : L2.St) (H : Hp) (Q : XK) => Q (.ref C) none H) σ H fun cls d H' => Wx cls d σ H') (mRaise0 nm) := by
  intro σ H io Fr s S0 r0 s' e D hnx hbk hct hrt hex
  cases e
  exact hex _ rfl _ _ σ H io ⟨S0, .refl, C, hC, rfl, .inl ⟨rfl, rfl⟩⟩
end
section
variable {X : Cx} {ea : EA} {Wx : WX} {e o : Expr} {es : List Expr} {ms : Mo (List RV)} {k : Nat} {f C : Addr} {fd : FuncData} {ps fs : List Str} {x : Str} {p pos pos' : Pos}
theorem pes_raise (hC : X.mg x = some (.ref C)) (T : OexC X.K C) (hf : ∀ f ∈ fs, PySem.W.findIn X.K (.ref C) f = some none) (nz : fs ≠ []) (iC : PySem.W.findIn X.K (.ref C) "__init__" = some (some (.ref f))) (tI : PySem.W.typeIn X.K (.ref f) = some (.type "function"))
    (F1 : FnOk X.prog X.w X.K X.mg X.base (L2.CX X.prog X.w) k f fd ps (spXI X.K fs)) (hr : Room (k + 1) X.A) (hb : Binds X.K fd ps []) (tk : Takes X Wx) (ha : Pea X ea Wx (e :: es) ms) (hc : X.calm = true := by rfl) (hg : Gl X x := by rfl)
    (hdb : (x == ("__debug__" : Str)) = false := by decide) (he : starEach (e :: es) X.env = (false, eval e X.env) :: starEach es X.env := by rfl) (hpl : (backTo pos (starEach es X.env)).any (·.1) = false := by rfl) :
    Pes X ea Wx (.Raise (some (.Call (.Name x p) (e :: es) [] pos)) none pos') (mRaise x fs ms) := by
  obtain ⟨t, q, r⟩ := ha.ex
  exact ⟨_, ps_raise hc tk (pmk_oex T iC tI F1 hr hb .nil passL hg hC q hdb he hpl), ref_raise hC T hf r nz⟩
end
end Z
set_option Elab.async false
set_option linter.all false
set_option maxRecDepth 100000
namespace Z
open PySem PySem.Spec PyProof.Rows L2
abbrev HdT := Value × Option Nat × (Addr → Value → Option Addr → TS)
def endsAt (i : Nat) (D : Ends) : Ends := { nx := fun σ' H' => D.nx (σ'.set i none) H', rt := D.rt, bk := fun σ' H' => D.bk (σ'.set i none) H', ct := fun σ' H' => D.ct (σ'.set i none) H' }
def wHds (K : PySem.W.Frag) (Wout : WX) (D : Ends) : List HdT → WX
  | [] => Wout
  | (c, none, ts) :: r => fun cls d σ H => ∃ b, PySem.W.exmOne K cls c = some b ∧ (b = true → ∀ a, H a = none → ts a cls d D σ H) ∧ (b = false → wHds K Wout D r cls d σ H)
  | (c, some i, ts) :: r => fun cls d σ H => ∃ b, PySem.W.exmOne K cls c = some b ∧ (b = true → ∀ a, H a = none → ts a cls d (endsAt i D) (σ.set i (some (.ref a))) H) ∧ (b = false → wHds K Wout D r cls d σ H)
inductive HdsN (X : Cx) : List ExceptHandler → List HdT → Prop
  | nil : HdsN X [] []
  | cons {x : Str} {c : Value} {ts : Addr → Value → Option Addr → TS} {b₀ : Stmt} {suite : List Stmt} {np pos' : Pos} {hds : List ExceptHandler} {l : List HdT} (hc : Names X x c)
      (hsu : ∀ (a : Addr) (oe : Obj) (cls : Value) (d : Option Addr) (pn : List (Addr × Obj)), Zc cls d oe → (∃ vs, oe.data = .fields vs) → PSs (X.suite a ((a, oe) :: pn)) (b₀ :: suite) (ts a cls d)) (r : HdsN X hds l) :
      HdsN X (.ExceptHandler (some (.Name x np)) none (b₀ :: suite) pos' :: hds) ((c, none, ts) :: l)
  | consAs {x n : Str} {c : Value} {i : Nat} {ts : Addr → Value → Option Addr → TS} {b₀ : Stmt} {suite : List Stmt} {np pos' : Pos} {hds : List ExceptHandler} {l : List HdT} (hc : Names X x c) (hi : X.N[i]? = some n) (hln : X.env.kindOf n = some .local)
      (hsu : ∀ (a : Addr) (oe : Obj) (cls : Value) (d : Option Addr) (pn : List (Addr × Obj)), Zc cls d oe → (∃ vs, oe.data = .fields vs) → PSs (X.suite a ((a, oe) :: pn)) (b₀ :: suite) (ts a cls d)) (r : HdsN X hds l) :
      HdsN X (.ExceptHandler (some (.Name x np)) (some n) (b₀ :: suite) pos' :: hds) ((c, some i, ts) :: l)
section
variable {X : Cx} {body : List Stmt} {h₀ : ExceptHandler} {hds : List ExceptHandler} {l : List HdT} {pos : Pos} {tb : WX → TS} {Wout : WX}
structure Got (X : Cx) (pl : List (Addr × Obj)) (a : Addr) (B : Heap) (sI : Shared) (σ : L2.St) (H : Hp) (cls : Value) (d : Option Addr) (s : Shared) : Prop where
  own : X.stack = X.env :: X.outer
  at_ : X.env.frame = some X.env.locals
  old : Inv X pl σ H sI
  nb : ∀ b o, sI.heap.get? b = some o → b ∉ frs X.stack → B.get? b = some o
  fly : HandSPX.FlyingZ B (X.env :: X.outer) a (Zc cls d) s.heap
  up : sI.heap.UpToSlots s.heap
  na : H a = none
  os : s.os = sI.os
  ag : AllBare s.gens
section
variable {pl : List (Addr × Obj)} {a : Addr} {B : Heap} {sI s : Shared} {σ : L2.St} {H : Hp} {cls c : Value} {d : Option Addr} {x n : Str} {np p2 : Pos} {D : Ends} {b0 : Stmt} {bs : List Stmt} {ts : Addr → Value → Option Addr → TS} {i : Nat}
theorem Got.inv (g : Got X pl a B sI σ H cls d s) : Inv X pl σ H s := g.old.landed g.nb g.fly.1 g.up g.os g.ag
theorem Got.move {h : Heap} (g : Got X pl a B sI σ H cls d s) (fl : HandSPX.FlyingZ B (X.env :: X.outer) a (Zc cls d) h) (u : s.heap.UpToSlots h) : Got X pl a B sI σ H cls d { s with heap := h } := { g with fly := fl, up := g.up.trans u }
theorem Got.noFrame (g : Got X pl a B sI σ H cls d s) : a ∉ frs (X.env :: X.outer) := fun hm => by
  obtain ⟨oe, us, e1, _, e2⟩ := g.fly.there
  obtain ⟨_, o2, e3, e4⟩ := g.fly.2.2.1.mem hm
  exact e4 us (by rw [← Option.some.inj (e1.symm.trans e3)]; exact e2)
theorem Got.inSuite (g : Got X pl a B sI σ H cls d s) : ∃ oe, s.heap.get? a = some oe ∧ Zc cls d oe ∧ (∃ us, oe.data = .fields us) ∧ Inv (X.suite a ((a, oe) :: (X.pn ++ pl))) [] σ H s := by
  obtain ⟨oe, us, e1, z, e2⟩ := g.fly.there
  have n1 : a ≠ X.env.locals := fun z => g.noFrame (List.mem_filterMap.mpr ⟨X.env, by simp, by rw [g.at_, z]⟩)
  have n2 : a ∉ X.fs := fun hm => let ⟨e, he, q⟩ := List.mem_filterMap.mp hm; g.noFrame (List.mem_filterMap.mpr ⟨e, List.mem_cons_of_mem _ he, q⟩)
  exact ⟨oe, e1, z, ⟨us, e2⟩, g.inv.suite e1 e2 g.na n1 n2⟩
theorem Got.asked {b : Bool} {R : Result → Shared → Prop} (g : Got X pl a B sI σ H cls d s) (nm : Names X x c) (hb : PySem.W.exmOne X.K cls c = some b) (h : R (.ok (if b then .brk else .next)) s) :
    codeAny (model X.prog X.w) (X.A.mark (some (.ref a))) (.handlers (.ref a) [.ExceptHandler (some (.Name x np)) none [] p2] X.env) R s := by
  obtain ⟨oe, e1, z, _, S⟩ := g.inSuite
  have look : PySem.W.Looks (model X.prog X.w) s.heap (typeOf (.ref a)) cls := fun _ _ _ _ k q => wpAny_typeOf_ref (k _ _ e1) (by rw [z.1]; exact q)
  refine codeAny_handlers_test ?_
  rcases nm with ⟨n1, n2, n3 | ⟨n3, n4, n5⟩⟩
  · exact ld_glob S n1 n3 ((PySem.W.exm_one g.inv.kIn look hb).here h) n2
  · exact ld_blt S n1 n3 n4 ((PySem.W.exm_one g.inv.kIn look hb).here h) n5 n2
theorem Got.unserved {Wout : WX} (g : Got X pl a B sI σ H cls d s) (tk : Takes X Wout) (w : Wout cls d σ H) : wpAny (model X.prog X.w) X.A (handleBy (.ref a) X.env []) (SP X pl D) X.xe s := by
  have thrown : wpAny (model X.prog X.w) X.A (setFlight (.ref a) X.env.frame) (fun _ s4 => wpAny (model X.prog X.w) X.A (throw (.ref a) : Sem Flow) (SP X pl D) X.xe s4) X.xe s := by
    rw [g.at_]
    exact HandSPX.setFlight_upZ g.fly fun h4 held u => wpAny_throw (tk _ _ ⟨a, B, sI, pl, σ, H, cls, d, rfl, g.old, g.nb, g.up.trans u, .inr (.inr (by rw [g.own]; exact held)), g.na, g.os, g.ag, w⟩)
  obtain ⟨_, _, _, oe, us, T, _, _, e1, _, e2, e3, _⟩ := id g.fly
  refine wpAny_handleBy_nil ?_
  unfold PySem.passOn
  refine wpAny_bind (wpAny_field e1 e2 e3 ?_)
  have nn : ¬ ((Value.ref T == Value.none) = true) := by simp
  rw [if_neg nn]
  first | exact wpAny_bind (wpAny_pure (wpAny_bind thrown)) | exact wpAny_bind thrown
theorem suite_end {q : Addr × Obj} {f : Flow} {s6 : Shared} (ok : X.Ok) (h : SP (X.suite a (q :: (X.pn ++ pl))) [] D f s6) : SP X pl D f s6 := by
  cases f with
  | ret u => exact let ⟨v, σ6, H6, S, r, k⟩ := h; ⟨v, σ6, H6, S.unsuite ok, r, k⟩
  | next => exact let ⟨σ6, H6, S, k⟩ := h; ⟨σ6, H6, S.unsuite ok, k⟩
  | brk => exact let ⟨σ6, H6, S, k⟩ := h; ⟨σ6, H6, S.unsuite ok, k⟩
  | cont => exact let ⟨σ6, H6, S, k⟩ := h; ⟨σ6, H6, S.unsuite ok, k⟩
theorem Got.runs {R : Result → Shared → Prop} (g : Got X pl a B sI σ H cls d s) (hsu : ∀ (a : Addr) (oe : Obj) (cls : Value) (d : Option Addr) (pn : List (Addr × Obj)), Zc cls d oe → (∃ vs, oe.data = .fields vs) → PSs (X.suite a ((a, oe) :: pn)) (b0 :: bs) (ts a cls d)) (w : ts a cls d D σ H) (h : ∀ f s6, SP X pl D f s6 → R (.ok f) s6) :
    codeAny (model X.prog X.w) (X.A.mark (some (.ref a))) (.handlers (.ref a) [.ExceptHandler none none (b0 :: bs) p2] X.env) R s := by
  refine codeAny_handlers_suite (HandSPX.lands_againZ g.fly fun h4 fl u => ?_)
  obtain ⟨oe, _, z, df, S⟩ := (g.move fl u).inSuite
  exact wpAny_mono ((hsu a oe cls d _ z df).run [] _ _ H _ S w) (fun f s6 q => h f s6 (suite_end g.inv.ok q)) fun _ _ z => z.elim
theorem Got.runsAs {R : Result → Shared → Prop} (g : Got X pl a B sI σ H cls d s) (hN : X.N.Nodup) (hi : X.N[i]? = some n) (hl : X.env.kindOf n = some .local) (hsu : ∀ (a : Addr) (oe : Obj) (cls : Value) (d : Option Addr) (pn : List (Addr × Obj)), Zc cls d oe → (∃ vs, oe.data = .fields vs) → PSs (X.suite a ((a, oe) :: pn)) (b0 :: bs) (ts a cls d))
    (w : ts a cls d (endsAt i D) (σ.set i (some (.ref a))) H) (h : ∀ f s6, wpAny (model X.prog X.w) X.A (do bindName X.env n .none; unbindBehindTheSuite X.env n p2) (fun _ s7 => SP X pl D f s7) X.xe s6 → R (.ok f) s6) :
    codeAny (model X.prog X.w) (X.A.mark (some (.ref a))) (.handlers (.ref a) [.ExceptHandler none (some n) (b0 :: bs) p2] X.env) R s := by
  refine codeAny_handlers_suite_as (HandSPX.lands_againZ g.fly fun h4 fl u => ?_)
  obtain ⟨oe, _, z, df, S⟩ := (g.move fl u).inSuite
  have at_ : Loc (X.suite a ((a, oe) :: (X.pn ++ pl))).env.scope n := .inl hl
  refine store_ok (X := X.suite a ((a, oe) :: (X.pn ++ pl))) (v := .ref a) (hx := at_) (hf := .inr hl) (hi := hi) (hN := hN) (r := rfl) S fun s5 S5 => ?_
  refine wpAny_mono ((hsu a oe cls d _ z df).run [] s5 _ H _ S5 w) (fun f s6 q => h f s6 ?_) fun _ _ z => z.elim
  have q := suite_end g.inv.ok q
  cases f with
  | ret u => exact let ⟨v, σ6, H6, J, r, k⟩ := q; gone_ok J hN hi hl fun s7 J7 => ⟨v, _, H6, J7, r, k⟩
  | next => exact let ⟨σ6, H6, J, k⟩ := q; gone_ok J hN hi hl fun s7 J7 => ⟨_, H6, J7, k⟩
  | brk => exact let ⟨σ6, H6, J, k⟩ := q; gone_ok J hN hi hl fun s7 J7 => ⟨_, H6, J7, k⟩
  | cont => exact let ⟨σ6, H6, J, k⟩ := q; gone_ok J hN hi hl fun s7 J7 => ⟨_, H6, J7, k⟩
theorem Got.all {Wout : WX} (tk : Takes X Wout) (hN : X.N.Nodup) {hds : List ExceptHandler} {l : List HdT} (hk : HdsN X hds l) : ∀ {s : Shared}, Got X pl a B sI σ H cls d s → wHds X.K Wout D l cls d σ H → wpAny (model X.prog X.w) X.A (handleBy (.ref a) X.env hds) (SP X pl D) X.xe s := by
  induction hk with
  | nil => exact fun g w => g.unserved tk w
  | cons nm hsu _ ih =>
    rintro s g ⟨b, hb, yes, no⟩
    refine wpAny_handleBy_cons (g.asked nm hb ?_) (by intro q; cases q)
    cases b with
    | true =>
      refine g.runs hsu (yes rfl a g.na) fun f s6 q => ?_
      exact q
    | false => exact ih g (no rfl)
  | consAs nm hi hl hsu _ ih =>
    rintro s g ⟨b, hb, yes, no⟩
    refine wpAny_handleBy_cons (g.asked nm hb ?_) (by intro q; cases q)
    cases b with
    | true =>
      refine g.runsAs hN hi hl hsu (yes rfl a g.na) fun f s6 q => ?_
      exact q
    | false => exact ih g (no rfl)
end
theorem ps_tryN (hs : X.stack = X.env :: X.outer) (hf : X.env.frame = some X.env.locals) (hN : X.N.Nodup) (tk : Takes X Wout)
    (hb : ∀ (W : WX) (pn : List (Addr × Obj)) (xe : Value → Shared → Prop), Takes (X.tr pn xe) W → PassesOwn (model X.prog X.w) X.A X.env xe → PSs (X.tr pn xe) body (tb W))
    (hh : HdsN X (h₀ :: hds) l) : PS X (.Try body (h₀ :: hds) [] [] pos) (fun D σ H => tb (wHds X.K Wout D l) D σ H) := by
  refine ⟨fun pl s σ H D I h => wpAny_Try_except ?_⟩
  have caught : ∀ (xe : Value → Shared → Prop) e s1, XE (X.tr (X.pn ++ pl) xe) (wHds X.K Wout D l) e s1 → wpAny (model X.prog X.w) X.A (noteFrame e X.env) (fun _ s2 => wpAny (model X.prog X.w) X.A (setFlight e none) (fun _ s3 => wpAny (model X.prog X.w) X.A (handleBy e X.env (h₀ :: hds)) (SP X pl D) X.xe s3) X.xe s2) X.xe s1 := by
    rintro xe _ s1 ⟨a, B, sI, p1, σ1, H1, cls, d, rfl, J, nb, up, sky, na, os, ag, w⟩
    have J := J.ofTry I.ok
    have fr : X.A.frames = some (X.env :: X.outer) := by rw [← hs]; exact I.ok.frames
    exact Sky.land Zc.steady fr hf (by rw [← hs]; exact sky) fun h3 fl u => Got.all tk hN hh ⟨hs, hf, J, nb, fl, up.trans u, na, os, ag⟩ w
  refine wpAny_mono ((hb _ (X.pn ++ pl) _ (fun e s1 h => caught _ e s1 h) PassesOwn.looking).run [] s σ H D (I.toTry _) h) (fun f s1 q => ?_) fun _ _ z => z
  cases f with
  | ret u => exact let ⟨v, σ6, H6, J, r, k⟩ := q; ⟨v, σ6, H6, J.ofTry I.ok, r, k⟩
  | next => exact let ⟨σ6, H6, J, k⟩ := q; wpAny_execs_nil ⟨σ6, H6, J.ofTry I.ok, k⟩
  | brk => exact let ⟨σ6, H6, J, k⟩ := q; ⟨σ6, H6, J.ofTry I.ok, k⟩
  | cont => exact let ⟨σ6, H6, J, k⟩ := q; ⟨σ6, H6, J.ofTry I.ok, k⟩
end
section
variable (K : PySem.W.Frag) (mg : Str → Option Value) (ea : EA) (Wx : WX)
def tsOf (m : Mo Fl) : TS := fun D σ H => ∃ io Fr s r s', Sim K mg ea io Fr s σ H ∧ m s = some (r, s') ∧
  (r = .ok .nx → ∀ σ' H' io', PostS K mg ea io Fr s σ H s' σ' io' H' → D.nx σ' H') ∧ (r = .ok .bk → ∀ σ' H' io', PostS K mg ea io Fr s σ H s' σ' io' H' → D.bk σ' H') ∧
  (r = .ok .ct → ∀ σ' H' io', PostS K mg ea io Fr s σ H s' σ' io' H' → D.ct σ' H') ∧ (∀ f, r = .ok (.rt f) → ∀ v H' io', PostF K mg io (Ms io Fr s σ) Fr H s'.G io' H' f v → D.rt v H') ∧
  (∀ x, r = .error x → ∀ cls d σ' H' io', PostX K mg ea io Fr s σ H s' σ' io' H' x cls d → Wx cls d σ' H')
end
theorem Pess.can {X : Cx} {ea : EA} {Wx : WX} {sts : List Stmt} {m : Mo Fl} (h : Pess X ea Wx sts m) : PSs X sts (tsOf X.K X.mg ea Wx m) := by
  obtain ⟨t, p, r⟩ := h.ex
  exact ⟨fun pins s σ H D I ⟨io, Fr, s1, r0, s', S0, e, h1, h2, h3, h4, h5⟩ => p.run pins s σ H D I (r σ H io Fr s1 S0 r0 s' e D h1 h2 h3 h4 h5)⟩
def noExc (r : List SV) : Bool := r.all fun x => match x with
  | .exc _ => false
  | _ => true
theorem noExc_get {r : List SV} {i : Nat} {x : Ex} (h : noExc r = true) : r[i]? ≠ some (.exc x) := fun e => by
  have := List.all_eq_true.mp h _ (List.mem_of_getElem? e)
  simp at this
structure Hd where
  tbl : List (Str × Bool)
  slot : Option Nat
  suite : Mo Fl
def runSuite (h : Hd) (x : Ex) : Mo Fl := fun s => if noExc s.r = true then match h.slot with
  | none => (match h.suite s with
    | some (.ok f, s') => if noExc s'.r = true then some (.ok f, s') else none
    | _ => none)
  | some i => (match h.suite { s with r := s.r.set i (.exc x) } with
    | some (.ok f, s') => if noExc (s'.r.set i .non) = true then some (.ok f, { s' with r := s'.r.set i .non }) else none
    | _ => none)
  else none
def handleM : List Hd → Ex → Mo Fl
  | [], x => raiseM x
  | h :: hs, x => fun s => match h.tbl.lookup x.nm with
    | none => none
    | some true => runSuite h x s
    | some false => handleM hs x s
def mTry (mb : Mo Fl) (hs : List Hd) : Mo Fl := fun s => match mb s with
  | none => none
  | some (.ok f, s') => some (.ok f, s')
  | some (.error x, s') => handleM hs x s'
section
variable {K : PySem.W.Frag} {mg : Str → Option Value} {ea ea' : EA} {io io' : List Addr} {Fr Fr' : Addr → Prop} {s s' s2 : S} {σ σ' : L2.St} {H H' : Hp} {w : W} {v : V} {c : Cell} {o : HO} {a p C : Addr} {ws : List W} {vs : List V} {M M' : Addr → Prop} {Wx : WX}
theorem Sim.toEA (x : Sim K mg ea io Fr s σ H) (h : noExc s.r = true) : Sim K mg ea' io Fr s σ H := ⟨x.len, x.g, x.val, x.own, x.dist, fun i y e => absurd e (noExc_get h)⟩
theorem Sim.setExc {i : Nat} {x : Ex} {cls : Value} {d : Option Addr} (y : Sim K mg ea io Fr s σ H) (h : noExc s.r = true) (e : ExR K mg io (Ms io Fr s σ) H x cls d) :
    Sim K mg ⟨a, cls, d⟩ io Fr { s with r := s.r.set i (.exc x) } (σ.set i (some (.ref a))) H ∧ (∀ b, Ms io Fr { s with r := s.r.set i (.exc x) } (σ.set i (some (.ref a))) b → Ms io Fr s σ b) := by
  have key : ∀ (j : Nat) (z : SV), (s.r.set i (.exc x))[j]? = some z → (∀ q, z ≠ .exc q) → i ≠ j ∧ s.r[j]? = some z := fun j z e n => by
    by_cases ij : i = j
    · subst ij
      have hi := get_lt e
      simp only [List.length_set] at hi
      rw [List.getElem?_set_self hi] at e
      cases e
      exact absurd rfl (n x)
    · rw [List.getElem?_set_ne ij] at e
      exact ⟨ij, e⟩
  have fo : ∀ b, FrO Fr (s.r.set i (.exc x)) (σ.set i (some (.ref a))) b → FrO Fr s.r σ b := fun b z => z.imp id fun ⟨j, c, h1, h2⟩ => by
    obtain ⟨ij, e⟩ := key j _ h1 (fun q => by intro z; cases z)
    rw [List.getElem?_set_ne ij] at h2
    exact ⟨j, c, e, h2⟩
  have le : ∀ b, Ms io Fr { s with r := s.r.set i (.exc x) } (σ.set i (some (.ref a))) b → Ms io Fr s σ b := fun b z => z.imp id (fo b)
  refine ⟨⟨by simp [y.len], y.g.less fo, fun j w q => ?_, fun j c q => ?_, fun j k c d b q1 q2 q3 q4 => ?_, fun j z q => ?_⟩, le⟩
  · obtain ⟨ij, q'⟩ := key j _ q (fun q => by intro z; cases z)
    obtain ⟨v, h1, h2⟩ := y.val j w q'
    exact ⟨v, by rw [List.getElem?_set_ne ij]; exact h1, h2.pers (.less le)⟩
  · obtain ⟨ij, q'⟩ := key j _ q (fun q => by intro z; cases z)
    obtain ⟨b, o, h1, h2, h3, h4⟩ := y.own j c q'
    exact ⟨b, o, by rw [List.getElem?_set_ne ij]; exact h1, h2, h3.pers (.less le), h4⟩
  · obtain ⟨ij, e1⟩ := key j _ q1 (fun q => by intro z; cases z)
    obtain ⟨ik, e2⟩ := key k _ q2 (fun q => by intro z; cases z)
    rw [List.getElem?_set_ne ij] at q3
    rw [List.getElem?_set_ne ik] at q4
    exact y.dist j k c d b e1 e2 q3 q4
  · by_cases ij : i = j
    · subst ij
      have hi := get_lt q
      simp only [List.length_set] at hi
      rw [List.getElem?_set_self hi] at q
      cases q
      exact ⟨List.getElem?_set_self (by rw [← y.len]; exact hi), e.pers (.less le)⟩
    · simp only at q
      rw [List.getElem?_set_ne ij] at q
      exact absurd q (noExc_get h)
inductive HdsM (K : PySem.W.Frag) (mg : Str → Option Value) : List HdT → List Hd → Prop
  | nil : HdsM K mg [] []
  | cons {c : Value} {os : Option Nat} {tbl : List (Str × Bool)} {m : Mo Fl} {l : List HdT} {hs : List Hd} (ht : ∀ nm b, tbl.lookup nm = some b → ∀ C, mg nm = some (.ref C) → PySem.W.exmOne K (.ref C) c = some b) (r : HdsM K mg l hs) :
      HdsM K mg ((c, os, fun a cls d => tsOf K mg ⟨a, cls, d⟩ W0 m) :: l) (⟨tbl, os, m⟩ :: hs)
theorem handle_ok {l : List HdT} {hs : List Hd} (h : HdsM K mg l hs) : ∀ {x : Ex} {s0 : S} {σ0 : L2.St} {H0 : Hp} {io0 : List Addr} {cls : Value} {d : Option Addr} {r : Except Ex Fl}, PostX K mg ea io0 Fr s0 σ0 H0 s σ io H x cls d → handleM hs x s = some (r, s') → ∀ D : Ends,
    (r = .ok .nx → ∀ σ' H' io', PostS K mg ea io0 Fr s0 σ0 H0 s' σ' io' H' → D.nx σ' H') → (r = .ok .bk → ∀ σ' H' io', PostS K mg ea io0 Fr s0 σ0 H0 s' σ' io' H' → D.bk σ' H') →
    (r = .ok .ct → ∀ σ' H' io', PostS K mg ea io0 Fr s0 σ0 H0 s' σ' io' H' → D.ct σ' H') → (∀ f, r = .ok (.rt f) → ∀ v H' io', PostF K mg io0 (Ms io0 Fr s0 σ0) Fr H0 s'.G io' H' f v → D.rt v H') →
    (∀ x, r = .error x → ∀ cls d σ' H' io', PostX K mg ea io0 Fr s0 σ0 H0 s' σ' io' H' x cls d → Wx cls d σ' H') → wHds K Wx D l cls d σ H := by
  induction h with
  | nil =>
    intro x s0 σ0 H0 io0 cls d r p e D h1 h2 h3 h4 h5
    cases e
    exact h5 x rfl cls d σ H io p
  | @cons c os tbl m l hs ht r0 ih =>
    intro x s0 σ0 H0 io0 cls d r p e D h1 h2 h3 h4 h5
    unfold handleM at e
    obtain ⟨S1, T1, C, hm, rfl, hd⟩ := id p
    split at e
    · cases e
    · rename_i hl
      have hx := ht _ _ hl C hm
      unfold runSuite at e
      split at e
      · rename_i hne
        cases os with
        | none =>
          refine ⟨true, hx, fun _ a ha => ?_, fun z => by cases z⟩
          simp only at e
          split at e
          · rename_i f s2 k
            split at e
            · rename_i hn2
              cases e
              refine ⟨io, Fr, s, _, _, S1.toEA hne, k, fun q σ' H' io' p2 => ?_, fun q σ' H' io' p2 => ?_, fun q σ' H' io' p2 => ?_, fun f' q v H' io' p2 => ?_, fun x q => by cases q⟩
              · exact h1 q σ' H' io' ⟨p2.1.toEA hn2, T1.trans p2.2⟩
              · exact h2 q σ' H' io' ⟨p2.1.toEA hn2, T1.trans p2.2⟩
              · exact h3 q σ' H' io' ⟨p2.1.toEA hn2, T1.trans p2.2⟩
              · exact h4 f' q v H' io' (p2.trans T1)
            · cases e
          · cases e
        | some i =>
          refine ⟨true, hx, fun _ a ha => ?_, fun z => by cases z⟩
          simp only at e
          split at e
          · rename_i f s2 k
            split at e
            · rename_i hn2
              cases e
              obtain ⟨S2, l2⟩ := S1.setExc (a := a) (i := i) hne p.2.2
              have T2 : Stp io0 (Ms io0 Fr s0 σ0) Fr H0 io (Ms io Fr { s with r := s.r.set i (.exc x) } (σ.set i (some (.ref a)))) H := T1.less l2
              have back : ∀ {σ' : L2.St} {H' : Hp} {io' : List Addr}, PostS K mg ⟨a, .ref C, d⟩ io Fr { s with r := s.r.set i (.exc x) } (σ.set i (some (.ref a))) H s2 σ' io' H' → PostS K mg ea io0 Fr s0 σ0 H0 { s2 with r := s2.r.set i .non } (σ'.set i none) io' H' := fun {σ' H' io'} p2 => by
                obtain ⟨S3, l3⟩ := p2.1.drop1 (i := i) (u := none)
                exact ⟨S3.toEA hn2, (T2.trans p2.2).less l3⟩
              refine ⟨io, Fr, _, _, _, S2, k, fun q σ' H' io' p2 => ?_, fun q σ' H' io' p2 => ?_, fun q σ' H' io' p2 => ?_, fun f' q v H' io' p2 => ?_, fun x q => by cases q⟩
              · exact h1 q _ H' io' (back p2)
              · exact h2 q _ H' io' (back p2)
              · exact h3 q _ H' io' (back p2)
              · exact h4 f' q v H' io' (p2.trans T2)
            · cases e
          · cases e
      · cases e
    · rename_i hl
      have hx := ht _ _ hl C hm
      have := ih p e D h1 h2 h3 h4 h5
      cases os with
      | none => exact ⟨false, hx, ⟨fun z => (by cases z), fun _ => this⟩⟩
      | some i => exact ⟨false, hx, ⟨fun z => (by cases z), fun _ => this⟩⟩
theorem ref_try {l : List HdT} {hs : List Hd} {mb : Mo Fl} (h : HdsM K mg l hs) : RefS K mg ea Wx (fun D σ H => (fun W => tsOf K mg ea W mb) (wHds K Wx D l) D σ H) (mTry mb hs) := by
  intro σ H io Fr s S0 r0 s' e D hnx hbk hct hrt hex
  unfold mTry at e
  split at e
  · cases e
  · rename_i f s1 k
    cases e
    exact ⟨io, Fr, s, _, _, S0, k, hnx, hbk, hct, hrt, fun x q => by cases q⟩
  · rename_i x s1 k
    refine ⟨io, Fr, s, _, _, S0, k, fun q => (by cases q), fun q => (by cases q), fun q => (by cases q), fun _ q => (by cases q), fun x' q cls d σ' H' io' p => ?_⟩
    cases q
    exact handle_ok h p e D hnx hbk hct hrt hex
end
section
variable {X : Cx} {ea : EA} {Wx : WX} {body : List Stmt} {h₀ : ExceptHandler} {hds : List ExceptHandler} {pos : Pos} {mb : Mo Fl}
structure PHds (X : Cx) (hds : List ExceptHandler) (hs : List Hd) : Prop where
  ex : ∃ l, HdsN X hds l ∧ HdsM X.K X.mg l hs
theorem phds_nil : PHds X [] [] := ⟨[], .nil, .nil⟩
variable {x n : Str} {c : Value} {i : Nat} {b₀ : Stmt} {suite : List Stmt} {np pos' : Pos} {hs : List Hd} {tbl : List (Str × Bool)} {m : Mo Fl}
theorem phds_as (i : Nat) (hc : Names X x c) (ht : ∀ nm b, tbl.lookup nm = some b → ∀ C, X.mg nm = some (.ref C) → PySem.W.exmOne X.K (.ref C) c = some b)
    (hsu : ∀ (a : Addr) (oe : Obj) (cls : Value) (d : Option Addr) (pn : List (Addr × Obj)), Zc cls d oe → (∃ vs, oe.data = .fields vs) → Pess (X.suite a ((a, oe) :: pn)) ⟨a, cls, d⟩ W0 (b₀ :: suite) m) (r : PHds X hds hs)
    (hi : X.N[i]? = some n := by rfl) (hln : X.env.kindOf n = some .local := by rfl) :
    PHds X (.ExceptHandler (some (.Name x np)) (some n) (b₀ :: suite) pos' :: hds) (⟨tbl, some i, m⟩ :: hs) :=
  let ⟨_, h1, h2⟩ := r.ex; ⟨_, .consAs hc hi hln (fun a oe cls d pn hz hf => (hsu a oe cls d pn hz hf).can) h1, .cons ht h2⟩
theorem pes_try (hN : X.N.Nodup) (tk : Takes X Wx) (hb : ∀ (W : WX) (pn : List (Addr × Obj)) (xe : Value → Shared → Prop), Takes (X.tr pn xe) W → PassesOwn (model X.prog X.w) X.A X.env xe → Pess (X.tr pn xe) ea W body mb)
    (hh : PHds X (h₀ :: hds) hs) (h1 : X.stack = X.env :: X.outer := by rfl) (h2 : X.env.frame = some X.env.locals := by rfl) : Pes X ea Wx (.Try body (h₀ :: hds) [] [] pos) (mTry mb hs) :=
  let ⟨_, p, q⟩ := hh.ex; ⟨_, ps_tryN (tb := fun W => tsOf X.K X.mg ea W mb) h1 h2 hN tk (fun W pn xe t pa => (hb W pn xe t pa).can) p, ref_try q⟩
end
end Z
set_option Elab.async false
set_option linter.all false
set_option maxRecDepth 100000
namespace Z
open PySem PySem.Spec PyProof.Rows L2
section
variable {K : PySem.W.Frag} {mg : Str → Option Value} {ea : EA} {io io' : List Addr} {Fr Fr' : Addr → Prop} {s s' s2 : S} {σ σ' : L2.St} {H H' : Hp} {w : W} {v : V} {c c' : Cell} {o o' : HO} {a p C : Addr} {ws : List W} {vs : List V} {M M' : Addr → Prop} {Wx : WX}
theorem fro_own {i : Nat} (e : s.r[i]? = some (.own c)) : ∀ b, FrO Fr (s.r.set i (.own c')) σ b ↔ FrO Fr s.r σ b := by
  have hi := get_lt e
  intro b
  constructor
  · rintro (z | ⟨j, d, h1, h2⟩)
    · exact .inl z
    · by_cases ij : i = j
      · subst ij; exact .inr ⟨i, c, e, h2⟩
      · rw [List.getElem?_set_ne ij] at h1; exact .inr ⟨j, d, h1, h2⟩
  · rintro (z | ⟨j, d, h1, h2⟩)
    · exact .inl z
    · by_cases ij : i = j
      · subst ij; exact .inr ⟨i, c', List.getElem?_set_self hi, h2⟩
      · exact .inr ⟨j, d, by rw [List.getElem?_set_ne ij]; exact h1, h2⟩
theorem ms_own {i : Nat} (e : s.r[i]? = some (.own c)) : ∀ b, Ms io Fr { s with r := s.r.set i (.own c') } σ b ↔ Ms io Fr s σ b := fun b => by
  constructor
  · exact fun z => z.imp id (fro_own e b).1
  · exact fun z => z.imp id (fro_own e b).2
theorem Sim.setOwnCell {i : Nat} (x : Sim K mg ea io Fr s σ H) (e : s.r[i]? = some (.own c)) (hs : σ[i]? = some (some (V.ref a))) (h : ∀ {H' : Hp}, Pers io (Ms io Fr s σ) H io (Ms io Fr s σ) H' → Rc K mg io (Ms io Fr s σ) H' c' o') :
    Sim K mg ea io Fr { s with r := s.r.set i (.own c') } σ (upd H a o') ∧ Stp io (Ms io Fr s σ) Fr H io (Ms io Fr { s with r := s.r.set i (.own c') } σ) (upd H a o') := by
  have hi := get_lt e
  obtain ⟨a0, o0, k1, k2, k3, k4⟩ := x.own i c e
  rw [hs] at k1; cases k1
  have aF : FrO Fr s.r σ a := .inr ⟨i, c, e, hs⟩
  have aM : Ms io Fr s σ a := .inr aF
  have nio : a ∉ io := fun z => x.g.dj a z aF
  have q : Pers io (Ms io Fr s σ) H io (Ms io Fr s σ) (upd H a o') := ⟨fun b u e hb => by rw [upd_ne (fun z => by subst z; exact hb aM)]; exact e, fun b z => .inl z, fun _ _ e => e⟩
  have le : ∀ b, Ms io Fr { s with r := s.r.set i (.own c') } σ b → Ms io Fr s σ b := fun b z => (ms_own e b).1 z
  have q' : Pers io (Ms io Fr s σ) H io (Ms io Fr { s with r := s.r.set i (.own c') } σ) (upd H a o') := ⟨q.keep, fun b z => .inl (le b z), q.ext⟩
  refine ⟨⟨by simpa using x.len, ⟨x.g.len, fun m b d h1 h2 => ?_, x.g.nd, fun b z => fun t => x.g.dj b z ((fro_own e b).1 t), fun b z => ?_⟩, fun j u t => ?_, fun j d t => ?_, fun j k d d' b t1 t2 t3 t4 => ?_, fun j y t => ?_⟩, q', fun b z => ?_, fun b u t => ?_⟩
  · obtain ⟨u, t, r⟩ := x.g.cell m b d h1 h2
    have nb : b ≠ a := fun z => by
      subst z
      exact nio (List.mem_of_getElem? h1)
    exact ⟨u, by rw [upd_ne nb]; exact t, r.pers q'⟩
  · by_cases ba : b = a
    · exact ⟨o', by rw [ba, upd_same], (h q).nt⟩
    · obtain ⟨u, t, n⟩ := x.g.fr b ((fro_own e b).1 z)
      exact ⟨u, by rw [upd_ne ba]; exact t, n⟩
  · by_cases ij : i = j
    · subst ij
      rw [show ({ s with r := s.r.set i (.own c') } : S).r = s.r.set i (.own c') from rfl, List.getElem?_set_self hi] at t
      cases t
    · rw [show ({ s with r := s.r.set i (.own c') } : S).r = s.r.set i (.own c') from rfl, List.getElem?_set_ne ij] at t
      obtain ⟨v, h1, h2⟩ := x.val j u t
      exact ⟨v, h1, h2.pers q'⟩
  · by_cases ij : i = j
    · subst ij
      rw [show ({ s with r := s.r.set i (.own c') } : S).r = s.r.set i (.own c') from rfl, List.getElem?_set_self hi] at t
      cases t
      exact ⟨a, o', hs, upd_same, (h q).pers (.less le), k4⟩
    · rw [show ({ s with r := s.r.set i (.own c') } : S).r = s.r.set i (.own c') from rfl, List.getElem?_set_ne ij] at t
      obtain ⟨b, u, h1, h2, h3, h4⟩ := x.own j d t
      have ba : b ≠ a := fun z => by
        subst z
        exact ij (x.dist i j c d b e t hs h1)
      exact ⟨b, u, h1, by rw [upd_ne ba]; exact h2, h3.pers q', h4⟩
  · have key : ∀ (j : Nat) (d : Cell), (s.r.set i (.own c'))[j]? = some (.own d) → ∃ d0, s.r[j]? = some (.own d0) := fun j d t => by
      by_cases ij : i = j
      · subst ij; exact ⟨c, e⟩
      · rw [List.getElem?_set_ne ij] at t; exact ⟨d, t⟩
    obtain ⟨d1, y1⟩ := key j d t1
    obtain ⟨d2, y2⟩ := key k d' t2
    exact x.dist j k d1 d2 b y1 y2 t3 t4
  · by_cases ij : i = j
    · subst ij
      rw [show ({ s with r := s.r.set i (.own c') } : S).r = s.r.set i (.own c') from rfl, List.getElem?_set_self hi] at t
      cases t
    · rw [show ({ s with r := s.r.set i (.own c') } : S).r = s.r.set i (.own c') from rfl, List.getElem?_set_ne ij] at t
      obtain ⟨h1, h2⟩ := x.exc j y t
      exact ⟨h1, h2.pers q'⟩
  · rw [upd_ne (fun t => by subst t; exact k4 z)]
  · by_cases ba : b = a
    · exact ⟨o', by rw [ba, upd_same]⟩
    · exact ⟨u, by rw [upd_ne ba]; exact t⟩
def cellAt (s : S) : RV → Option Cell
  | .hnd i => match s.r[i]? with
    | some (.own c) => some c
    | some (.val (.ref n)) => s.G[n]?
    | _ => none
  | .val (.ref n) => s.G[n]?
  | _ => none
def putAt (s : S) (c : Cell) : RV → S
  | .hnd i => match s.r[i]? with
    | some (.own _) => { s with r := s.r.set i (.own c) }
    | some (.val (.ref n)) => { s with G := s.G.set n c }
    | _ => s
  | .val (.ref n) => { s with G := s.G.set n c }
  | _ => s
theorem cell_ok (S0 : Sim K mg ea io Fr s σ H) {x : RV} (h : RvR K mg io (Ms io Fr s σ) σ H x v) (e : cellAt s x = some c) : ∃ a o, v = .ref a ∧ H a = some o ∧ Ms io Fr s σ a ∧ Rc K mg io (Ms io Fr s σ) H c o ∧
    ∀ c' o', (∀ {H' : Hp}, Pers io (Ms io Fr s σ) H io (Ms io Fr s σ) H' → Rc K mg io (Ms io Fr s σ) H' c' o') → Sim K mg ea io Fr (putAt s c' x) σ (upd H a o') ∧ Stp io (Ms io Fr s σ) Fr H io (Ms io Fr (putAt s c' x) σ) (upd H a o') ∧ (∀ b, Ms io Fr (putAt s c' x) σ b ↔ Ms io Fr s σ b) := by
  have viaRef : ∀ {n : Nat}, Rw K mg io (Ms io Fr s σ) H (.ref n) v → s.G[n]? = some c → ∃ a o, v = .ref a ∧ H a = some o ∧ Ms io Fr s σ a ∧ Rc K mg io (Ms io Fr s σ) H c o ∧
    ∀ c' o', (∀ {H' : Hp}, Pers io (Ms io Fr s σ) H io (Ms io Fr s σ) H' → Rc K mg io (Ms io Fr s σ) H' c' o') → Sim K mg ea io Fr { s with G := s.G.set n c' } σ (upd H a o') ∧ Stp io (Ms io Fr s σ) Fr H io (Ms io Fr { s with G := s.G.set n c' } σ) (upd H a o') ∧ (∀ b, Ms io Fr { s with G := s.G.set n c' } σ b ↔ Ms io Fr s σ b) := by
    intro n hr hg
    cases hr with
    | ref hn =>
      rename_i a
      obtain ⟨o, ho, hc⟩ := S0.g.cell n a c hn hg
      refine ⟨a, o, rfl, ho, .inl (List.mem_of_getElem? hn), hc, fun c' o' f => ?_⟩
      obtain ⟨S1, T1⟩ := S0.setCell hn f
      exact ⟨S1, T1, fun b => Iff.rfl⟩
  cases x with
  | own c => exact h.elim
  | val w =>
    cases w with
    | ref n => exact viaRef h e
    | _ => cases e
  | hnd i =>
    have h' : σ[i]? = some (some v) := h
    simp only [cellAt] at e
    split at e
    · rename_i c0 q
      cases e
      obtain ⟨a, o, h1, h2, h3, h4⟩ := S0.own i _ q
      rw [h'] at h1
      cases h1
      refine ⟨a, o, rfl, h2, .inr (.inr ⟨i, _, q, h'⟩), h3, fun c' o' f => ?_⟩
      obtain ⟨S1, T1⟩ := S0.setOwnCell q h' f
      have ep : putAt s c' (.hnd i) = { s with r := s.r.set i (.own c') } := by simp only [putAt, q]
      rw [ep]
      exact ⟨S1, T1, fun b => ms_own q b⟩
    · rename_i n q
      obtain ⟨u, h1, h2⟩ := S0.val i _ q
      rw [h'] at h1
      cases h1
      obtain ⟨a, o, k1, k2, k3, k4, k5⟩ := viaRef h2 e
      refine ⟨a, o, k1, k2, k3, k4, fun c' o' f => ?_⟩
      have ep : putAt s c' (.hnd i) = { s with G := s.G.set n c' } := by simp only [putAt, q]
      rw [ep]
      exact k5 c' o' f
    · cases e
def MutR (K : PySem.W.Frag) (mg : Str → Option Value) (r : V → List V → Hp → VK → Prop) (f : Cell → List W → Option (W × Cell)) : Prop :=
  ∀ io M H a o c ws vs w c' Q, H a = some o → Rc K mg io M H c o → Rws K mg io M H ws vs → f c ws = some (w, c') → M a →
    (∀ o' v, (∀ {H' : Hp}, Pers io M H io M H' → Rc K mg io M H' c' o') → Rw K mg io M H w v → Q v (upd H a o')) → r (.ref a) vs H Q
inductive CK where
  | lst
  | dict
def CK.ty : CK → String
  | .lst => "list"
  | .dict => "dict"
def CK.fits : CK → Cell → Bool
  | .lst, .lst _ => true
  | .dict, .dK _ => true
  | .dict, .dT _ => true
  | _, _ => false
theorem fits_ty {k : CK} (h : k.fits c = true) (ha : H a = some o) (r : Rc K mg io M H c o) : tyV K k.ty (.ref a) H := by
  cases k <;> cases c <;> simp [CK.fits] at h
  · obtain ⟨vs, rfl, _⟩ := r
    exact .inl ⟨rfl, vs, .inl (.inl ha)⟩
  · obtain ⟨vs, rfl, _⟩ := r
    exact .inr (.inr (.inl ⟨rfl, .inl ⟨vs, ha⟩⟩))
  · obtain ⟨vs, rfl, _⟩ := r
    exact .inr (.inr (.inl ⟨rfl, .inr ⟨vs, ha⟩⟩))
def mMut (k : CK) (f : Cell → List W → Option (W × Cell)) (mo : Mo RV) (ms : Mo (List RV)) : Mo RV := bnd mo fun x s => if ((cellAt s (settle x)).map k.fits) = some true then (bnd ms fun xs => bnd (freezeAll xs) fun ws s2 => match cellAt s2 (settle x) with
  | some c => (match f c ws with
    | some (w, c') => some (.ok (.val w), putAt s2 c' (settle x))
    | none => none)
  | none => none) s else none
theorem ref_mut {k : CK} {f : Cell → List W → Option (W × Cell)} {r : V → List V → Hp → VK → Prop} (hr : MutR K mg r f) {ta : TE} {t : TA} {mo : Mo RV} {ms : Mo (List RV)} (ho : RefE K mg ea Wx ta mo) (ha : RefA K mg ea Wx t ms) :
    RefE K mg ea Wx (tBM K k.ty r ta t) (mMut k f mo ms) := by
  intro σ H io Fr s S0 r0 s' e Q hok hex
  refine one2 ho S0 e hex fun x vx s1 H1 io1 e2 px => ?_
  obtain ⟨S1, T1, R1⟩ := px.settled
  split at e2
  · rename_i hc
    obtain ⟨c1, h1, h2⟩ := Option.map_eq_some_iff.mp hc
    obtain ⟨a, o, rfl, hH, hM, hR, _⟩ := cell_ok S1 R1 h1
    refine ⟨fits_ty h2 hH hR, ?_⟩
    refine arg2 ha S1 e2 (fun x q cls d H' io' p => hex x q cls d H' io' ⟨p.1, T1.trans p.2.1, p.2.2⟩) fun xs vs s4 H4 io4 e7 p4 R4 => ?_
    rcases bnd_some e7 with ⟨x, e8, rfl⟩ | ⟨ws, s5, e8, e9⟩
    · obtain ⟨_, _, _, _, q, _⟩ := freezeAll_ok p4.1 R4 e8
      cases q
    · obtain ⟨_, m5, S5, ws', q, r5⟩ := freezeAll_ok p4.1 R4 e8
      cases q
      have T5 := (T1.trans p4.2).less m5
      have R5 := RvR.pers ⟨fun _ _ h _ => h, fun a z => .inl (m5 a z), fun _ _ h => h⟩ (RvR.pers p4.2.p R1)
      split at e9
      · rename_i c5 hc5
        split at e9
        · rename_i w c' hf
          obtain ⟨a', o', h1, h2, h3, h4, h5⟩ := cell_ok S5 R5 hc5
          cases h1
          refine hr io4 _ H4 a o' c5 _ vs w c' Q h2 h4 r5 hf h3 fun o2 v f2 rw2 => ?_
          obtain ⟨S6, T6, m6⟩ := h5 c' o2 f2
          cases e9
          exact hok _ rfl v _ io4 ⟨S6, T5.trans T6, rw2.pers T6.p⟩
        · cases e9
      · cases e9
  · cases e2
theorem sz_le {n : Nat} (h : n ≤ sz) : n ≤ sizeLine := by rw [sizeLine_eq]; exact h
def fAppend : Cell → List W → Option (W × Cell)
  | .lst ws, [w] => if ws.length < sz then some (.non, .lst (ws ++ [w])) else none
  | _, _ => none
theorem mu_append : MutR K mg rAppend fAppend := by
  intro io M H a o c ws vs w c' Q ha hR hw e hM q
  unfold fAppend at e
  split at e
  · rename_i xs y
    split at e
    · rename_i hz
      cases e
      obtain ⟨us, rfl, r⟩ := hR
      obtain ⟨v, rest, rfl, h1, h2⟩ := hw.cons_inv
      have := h2.nil_inv
      subst this
      refine ⟨a, us, v, rfl, rfl, ha, ?_, q _ .non (fun {H'} p => ⟨_, rfl, (r.pers p).append (Rws.one (h1.pers p))⟩) .non⟩
      rw [← r.1, sizeLine_eq]; exact hz
    · cases e
  · cases e
theorem Rws.erase (h : Rws K mg io M H ws vs) (i : Nat) : Rws K mg io M H (ws.eraseIdx i) (vs.eraseIdx i) := by
  rw [List.eraseIdx_eq_take_drop_succ, List.eraseIdx_eq_take_drop_succ]
  exact (h.take i).append (h.drop (i + 1))
def fPop : Cell → List W → Option (W × Cell)
  | .lst ws, [.int i] => if -(2 ^ 63) ≤ i ∧ i < 2 ^ 63 then (match ixN ws.length i with
    | some j => (match ws[j]? with
      | some w => some (w, .lst (ws.eraseIdx j))
      | none => none)
    | none => none) else none
  | _, _ => none
theorem mu_pop : MutR K mg rPopAt fPop := by
  intro io M H a o c ws vs w c' Q ha hR hw e hM q
  unfold fPop at e
  split at e
  · rename_i xs i
    split at e
    · rename_i hz
      split at e
      · rename_i j hj
        split at e
        · rename_i u hu
          cases e
          obtain ⟨us, rfl, r⟩ := hR
          obtain ⟨v, rest, rfl, h1, h2⟩ := hw.cons_inv
          have := h2.nil_inv
          subst this
          cases h1
          obtain ⟨y, hy, ry⟩ := r.get hu
          obtain ⟨k1, _⟩ := ixN_seq hj
          refine ⟨a, us, i, j, y, rfl, rfl, ha, hz.1, hz.2, by rw [← r.1]; exact k1, hy, q _ y (fun {H'} p => ⟨_, rfl, (r.pers p).erase j⟩) ry⟩
        · cases e
      · cases e
    · cases e
  · cases e
end
abbrev FewArgs (X : Cx) (at_ : Pos) (args : List Expr) : Prop :=
  (((backTo at_ (starEach args X.env)).all fun x => !x.1) && ((backToKw at_ (keywordEach [] X.env)).all fun x => x.1.isSome) && decide (args.length + ([] : List Keyword).length + (if ([] : List Keyword).isEmpty then 0 else 1) < 30)) = true
section
variable {X : Cx} {ea : EA} {Wx : WX} {e o : Expr} {es : List Expr} {mo mv : Mo RV} {ms : Mo (List RV)} {p pos apos cpos tpos : Pos} {name : Str} {id : String} {r : V → List V → Hp → VK → Prop} {f : Cell → List W → Option (W × Cell)} {k : CK}
theorem pee_mut (pa : PlainAttrs k.ty) (slot : Slot k.ty name id) (hty : typeOf (.builtin id) = pure (.type "method_descriptor")) (hm : MtR X id r) (hf : MutR X.K X.mg r f) (ho : Pee X ea Wx o mo) (ha : Pea X ea Wx (e :: es) ms)
    (hbase : attributeBase o name X.env (eval o X.env) = eval o X.env := by rfl)
    (hfew : FewArgs X cpos (e :: es) := by rfl)
    (hs : starEach (e :: es) X.env = (false, eval e X.env) :: starEach es X.env := by rfl) (hline : (apos.endLine == cpos.line) = true := by rfl) (hplain : (backTo cpos (starEach es X.env)).any (·.1) = false := by rfl) :
    Pee X ea Wx (.Call (.Attribute o name apos) (e :: es) [] cpos) (mMut k f mo ms) := by
  obtain ⟨t, q, rr⟩ := ho.ex
  obtain ⟨t', q', rr'⟩ := ha.ex
  exact ⟨_, pe_bm pa slot hty hm q q' hbase hfew hline hs hplain, ref_mut hf rr rr'⟩
end
end Z
set_option Elab.async false
set_option linter.all false
set_option maxRecDepth 100000
namespace Z
open PySem PySem.Spec PyProof.Rows L2
section
variable {K : PySem.W.Frag} {mg : Str → Option Value} {ea : EA} {io io' : List Addr} {Fr Fr' : Addr → Prop} {s s' s2 : S} {σ σ' : L2.St} {H H' : Hp} {w : W} {v : V} {c c' : Cell} {o o' : HO} {a p C : Addr} {ws : List W} {vs : List V} {M M' : Addr → Prop} {Wx : WX}
def SetR (K : PySem.W.Frag) (mg : Str → Option Value) (r : TSet) (f : Cell → W → W → Option Cell) : Prop :=
  ∀ io M H a o c wi wv vi vv c' Q, H a = some o → Rc K mg io M H c o → Rw K mg io M H wi vi → Rw K mg io M H wv vv → f c wi wv = some c' →
    (∀ o', (∀ {H' : Hp}, Pers io M H io M H' → Rc K mg io M H' c' o') → Q (upd H a o')) → r (.ref a) vi vv H Q
def orf3 (f g : Cell → W → W → Option Cell) : Cell → W → W → Option Cell := fun c i w => match f c i w with
  | some z => some z
  | none => g c i w
theorem SetR.or {r r' : TSet} {f f' : Cell → W → W → Option Cell} (h : SetR K mg r f) (h' : SetR K mg r' f') : SetR K mg (fun o i v H Q => r o i v H Q ∨ r' o i v H Q) (orf3 f f') := by
  intro io M H a o c wi wv vi vv c' Q ha hr hi hv e q
  unfold orf3 at e
  cases k : f c wi wv with
  | some z =>
    rw [k] at e
    cases e
    exact .inl (h io M H a o c wi wv vi vv _ Q ha hr hi hv k q)
  | none =>
    rw [k] at e
    exact .inr (h' io M H a o c wi wv vi vv _ Q ha hr hi hv e q)
theorem PSet.or {X : Cx} {r r' : TSet} (h : PSet X r) (h' : PSet X r') : PSet X (fun o i v H Q => r o i v H Q ∨ r' o i v H Q) := by
  intro pins s σ H o i v ov iv u Q I ro ri rv q
  rcases q with q | q
  · exact h pins s σ H o i v ov iv u Q I ro ri rv q
  · exact h' pins s σ H o i v ov iv u Q I ro ri rv q
theorem Rkv.any {κ : Type} [DecidableEq κ] {k : κ} : ∀ {ws : List (κ × W)} {vs : List (κ × V)}, Rkv K mg io M H ws vs → (ws.any fun kv => decide (kv.1 = k)) = (vs.any fun kv => decide (kv.1 = k))
  | [], vs, h => by rw [h.nil_inv]; rfl
  | (k', w) :: ws, vs, h => by
    obtain ⟨v, r, rfl, h1, h2⟩ := h.cons_inv
    simp only [List.any_cons]
    rw [Rkv.any h2]
def RefO (K : PySem.W.Frag) (mg : Str → Option Value) (ea : EA) (Wx : WX) (t : TO) (m : Mo (Option Int)) : Prop := ∀ (σ : L2.St) (H : Hp) (io : List Addr) (Fr : Addr → Prop) (s : S), Sim K mg ea io Fr s σ H → ∀ r s', m s = some (r, s') → ∀ Q : Option Int → Hp → Prop,
  (∀ b, r = .ok b → ∀ H' io', PostS K mg ea io Fr s σ H s' σ io' H' → Q b H') → (∀ x, r = .error x → ∀ cls d H' io', PostX K mg ea io Fr s σ H s' σ io' H' x cls d → Wx cls d σ H') → t σ H Q
def mNoPart : Mo (Option Int) := ret none
def toI : RV → Mo (Option Int)
  | .val (.int i) => ret (some i)
  | _ => stk
def mPart (m : Mo RV) : Mo (Option Int) := bnd m toI
theorem ref_noPart : RefO K mg ea Wx tNoPart mNoPart := by
  intro σ H io Fr s S0 r s' e Q hok hex
  cases e
  exact hok _ rfl H io ⟨S0, .refl⟩
theorem ref_part {t : TE} {m : Mo RV} (h : RefE K mg ea Wx t m) : RefO K mg ea Wx (tPart t) (mPart m) := by
  intro σ H io Fr s S0 r s' e Q hok hex
  refine one2 h S0 e hex fun x v s1 H1 io1 e2 px => ?_
  unfold toI at e2
  split at e2
  · rename_i i
    cases e2
    obtain ⟨S1, T1, R1⟩ := px
    cases R1
    exact ⟨i, rfl, hok _ rfl H1 io1 ⟨S1, T1⟩⟩
  · cases e2
def cutW {α : Type} (xs : List α) (lo hi : Option Int) : List α := (xs.drop (HT.sIx xs.length 0 lo)).take (HT.sIx xs.length xs.length hi - HT.sIx xs.length 0 lo)
theorem Rws.cut (h : Rws K mg io M H ws vs) (lo hi : Option Int) : Rws K mg io M H (cutW ws lo hi) (cutV vs lo hi) := by
  unfold cutW cutV
  rw [h.1]
  exact (h.drop _).take _
def fSl : W → Option Int → Option Int → Option OR
  | .lst ws, lo, hi => some (.newl (cutW ws lo hi))
  | .frl ws, lo, hi => some (.newl (cutW ws lo hi))
  | .tup ws, lo, hi => if HT.sIx ws.length 0 lo = 0 ∧ HT.sIx ws.length ws.length hi = ws.length then some (.imm (.tup ws)) else some (.newt (cutW ws lo hi))
  | .str z, lo, hi => if z.length ≤ sz then some (.imm (.str (cutS z lo hi))) else none
  | .byt z, lo, hi => if z.size ≤ sz then some (.imm (.byt (PySem.W.KBy.picked z lo hi))) else none
  | _, _, _ => none
def rSlW (K : PySem.W.Frag) : V → Option Int → Option Int → Hp → VK → Prop := fun x lo hi H Q => rSlL K x lo hi H Q ∨ rSlA K x lo hi H Q ∨ rSlS x lo hi H Q ∨ rSlB x lo hi H Q
theorem sl_any {X : Cx} : SlR X (rSlW X.K) := sl_list.or (sl_tupA.or (sl_str.or sl_byt))
theorem sl_hr {x : W} {vx : V} {lo hi : Option Int} {z : OR} {Q : VK} (rx : Rn K mg io M H x vx) (e : fSl x lo hi = some z) (q : OQ K mg io M H z Q) : rSlW K vx lo hi H Q := by
  unfold fSl at e
  split at e
  · cases e
    obtain ⟨a, vs, rfl, h, r⟩ := rx.lst
    exact .inl ⟨a, vs, rfl, .inl (.inl h), fun p hp => q p _ hp (r.cut lo hi)⟩
  · cases e
    obtain ⟨a, vs, rfl, h, r⟩ := rx.frl
    exact .inl ⟨a, vs, rfl, h, fun p hp => q p _ hp (r.cut lo hi)⟩
  · rename_i ws
    have rt : ∃ a vs, vx = .ref a ∧ SqT K H a vs ∧ Rws K mg io M H ws vs ∧ Rw K mg io M H (.tup ws) vx := by
      rcases rx with h | ⟨c, o, a, e, rfl, ha, hc⟩
      · cases h with
        | tup h l q => exact ⟨_, _, rfl, h.elim (fun z => SqT.of z.1) fun z => .inr z.1, ⟨l, q⟩, .tup h l q⟩
      · cases c <;> cases e
    obtain ⟨a, vs, rfl, h, r, rr⟩ := rt
    refine .inr (.inl ⟨a, vs, rfl, h, fun g => ?_, fun g p hp => ?_⟩)
    · rw [← r.1] at g
      rw [if_pos g] at e
      cases e
      exact q _ rr
    · rw [← r.1] at g
      rw [if_neg g] at e
      cases e
      exact q p _ hp (r.cut lo hi)
  · split at e
    · rename_i hz
      cases e
      obtain rfl := rx.str
      exact .inr (.inr (.inl ⟨_, rfl, sz_le hz, q _ (.str _)⟩))
    · cases e
  · split at e
    · rename_i hz
      cases e
      obtain rfl := rx.byt
      exact .inr (.inr (.inr ⟨_, rfl, hz, q _ (.byt _)⟩))
    · cases e
  · cases e
def mSl (mo : Mo RV) (ml mh : Mo (Option Int)) : Mo RV := bnd mo fun x => bnd ml fun l => bnd mh fun h => bnd (look (settle x)) fun wx => liftO (fSl wx l h)
theorem ref_sl {to : TE} {tl th : TO} {mo : Mo RV} {ml mh : Mo (Option Int)} (ho : RefE K mg ea Wx to mo) (hl : RefO K mg ea Wx tl ml) (hh : RefO K mg ea Wx th mh) : RefE K mg ea Wx (tSl (rSlW K) to tl th) (mSl mo ml mh) := by
  intro σ H io Fr s S0 r0 s' e Q hok hex
  refine one2 ho S0 e hex fun x vx s1 H1 io1 e2 px => ?_
  obtain ⟨S1, T1, R1⟩ := px.settled
  rcases bnd_some e2 with ⟨z, e3, rfl⟩ | ⟨l, s2, e3, e4⟩
  · exact hl σ H1 io1 Fr s1 S1 _ _ e3 _ (fun _ q => by cases q) fun x' q cls d H' io' py => by
      cases q
      exact hex _ rfl cls d H' io' ⟨py.1, T1.trans py.2.1, py.2.2⟩
  · refine hl σ H1 io1 Fr s1 S1 _ _ e3 _ (fun l' q H2 io2 p2 => ?_) (fun _ q => by cases q)
    cases q
    have T2 := T1.trans p2.2
    rcases bnd_some e4 with ⟨z, e5, rfl⟩ | ⟨h, s3, e5, e6⟩
    · exact hh σ H2 io2 Fr s2 p2.1 _ _ e5 _ (fun _ q => by cases q) fun x' q cls d H' io' py => by
        cases q
        exact hex _ rfl cls d H' io' ⟨py.1, T2.trans py.2.1, py.2.2⟩
    · refine hh σ H2 io2 Fr s2 p2.1 _ _ e5 _ (fun h' q H3 io3 p3 => ?_) (fun _ q => by cases q)
      cases q
      have T3 := T2.trans p3.2
      have R3 := (R1.pers p2.2.p).pers p3.2.p
      rcases bnd_some e6 with ⟨z, e7, rfl⟩ | ⟨wx, s4, e7, e8⟩
      · obtain ⟨_, _, q, _⟩ := look_ok p3.1 R3 e7
        cases q
      · obtain ⟨rfl, wx', q, nx⟩ := look_ok p3.1 R3 e7
        cases q
        obtain ⟨rfl, u, hu, rfl⟩ := liftO_some e8
        exact sl_hr nx hu (OQ.post p3.1 T3 fun v H3 io3 px => hok _ rfl v H3 io3 px)
def mChain (f g : W → W → Option OR) (ma mb mc : Mo RV) : Mo RV := bnd ma fun x => bnd mb fun y => bnd (mB (opM f (settle x) (settle y))) fun k => if k = true then bnd mc fun z => opM g (settle y) (settle z) else ret (.val (.bl false))
theorem ref_chain {X : Cx} {r r' : R2} {f g : W → W → Option OR} (hr : ∀ io M H x y vx vy z Q, Rn K mg io M H x vx → Rn K mg io M H y vy → f x y = some z → OQ K mg io M H z Q → r vx vy H Q)
    (hr' : ∀ io M H x y vx vy z Q, Rn K mg io M H x vx → Rn K mg io M H y vy → g x y = some z → OQ K mg io M H z Q → r' vx vy H Q)
    {ta tb tc : TE} {ma mb mc : Mo RV} (ha : RefE K mg ea Wx ta ma) (hb : RefE K mg ea Wx tb mb) (hc : RefE K mg ea Wx tc mc) : RefE K mg ea Wx (tChain r r' ta tb tc) (mChain f g ma mb mc) := by
  intro σ H io Fr s S0 r0 s' e Q hok hex
  refine one2 ha S0 e hex fun x vx s1 H1 io1 e2 px => ?_
  obtain ⟨S1, T1, R1⟩ := px.settled
  refine one2 hb S1 e2 (fun x q cls d H' io' px => hex x q cls d H' io' ⟨px.1, T1.trans px.2.1, px.2.2⟩) fun y vy s2 H2 io2 e3 py => ?_
  obtain ⟨S2, T2', R2⟩ := py.settled
  have T2 := T1.trans T2'
  have R1' := R1.pers T2'.p
  rcases bnd_some e3 with ⟨z, e4, rfl⟩ | ⟨k, s3, e4, e5⟩
  · rcases bnd_some e4 with ⟨z', e6, _⟩ | ⟨q, s4, e6, e7⟩
    · unfold opM at e6
      rcases bnd_some e6 with ⟨z, e8, _⟩ | ⟨wx, s5, e8, e9⟩
      · obtain ⟨_, _, q, _⟩ := look_ok S2 R1' e8
        cases q
      · obtain ⟨rfl, wx', q, nx⟩ := look_ok S2 R1' e8
        cases q
        rcases bnd_some e9 with ⟨z, e10, _⟩ | ⟨wy, s6, e10, e11⟩
        · obtain ⟨_, _, q, _⟩ := look_ok S2 R2 e10
          cases q
        · obtain ⟨rfl, wy', q, ny⟩ := look_ok S2 R2 e10
          cases q
          obtain ⟨_, u, _, h⟩ := liftO_some e11
          cases h
    · obtain ⟨_, b, _, h⟩ := toB_some e7
      cases h
  · rcases bnd_some e4 with ⟨z', e6, h⟩ | ⟨q, s4, e6, e7⟩
    · cases h
    · obtain ⟨rfl, b, rfl, hb'⟩ := toB_some e7
      cases hb'
      unfold opM at e6
      rcases bnd_some e6 with ⟨z, e8, h⟩ | ⟨wx, s5, e8, e9⟩
      · cases h
      · obtain ⟨rfl, wx', q, nx⟩ := look_ok S2 R1' e8
        cases q
        rcases bnd_some e9 with ⟨z, e10, h⟩ | ⟨wy, s6, e10, e11⟩
        · cases h
        · obtain ⟨rfl, wy', q, ny⟩ := look_ok S2 R2 e10
          cases q
          obtain ⟨rfl, u, hu, h⟩ := liftO_some e11
          cases u with
          | imm w =>
            cases h
            refine hr _ _ _ _ _ _ _ _ _ nx ny hu fun v rv => ?_
            cases rv
            refine ⟨k, rfl, ?_⟩
            cases k with
            | false =>
              rw [if_neg (by simp)]
              cases e5
              exact hok _ rfl _ _ _ ⟨S2, T2, .bl _⟩
            | true =>
              rw [if_pos rfl]
              refine one2 hc S2 e5 (fun x q cls d H' io' px => hex x q cls d H' io' ⟨px.1, T2.trans px.2.1, px.2.2⟩) fun z vz s7 H7 io7 e12 pz => ?_
              obtain ⟨S7, T7', R7⟩ := pz.settled
              have T7 := T2.trans T7'
              have R2' := R2.pers T7'.p
              unfold opM at e12
              rcases bnd_some e12 with ⟨z, e13, rfl⟩ | ⟨wy2, s8, e13, e14⟩
              · obtain ⟨_, _, q, _⟩ := look_ok S7 R2' e13
                cases q
              · obtain ⟨rfl, wy', q, ny2⟩ := look_ok S7 R2' e13
                cases q
                rcases bnd_some e14 with ⟨z, e15, rfl⟩ | ⟨wz, s9, e15, e16⟩
                · obtain ⟨_, _, q, _⟩ := look_ok S7 R7 e15
                  cases q
                · obtain ⟨rfl, wz', q, nz⟩ := look_ok S7 R7 e15
                  cases q
                  obtain ⟨rfl, u2, hu2, rfl⟩ := liftO_some e16
                  exact hr' _ _ _ _ _ _ _ _ _ ny2 nz hu2 (OQ.post S7 T7 fun v H3 io3 px => hok _ rfl v H3 io3 px)
          | newl ws => cases h
          | newt ws => cases h
def IpM (X : Cx) (op : Operator) (f : W → W → Option OR) : Prop :=
  ∃ r : TIp, PIp X op r ∧ ∀ io M H x y vx vy z Q, Rn X.K X.mg io M H x vx → Rn X.K X.mg io M H y vy → f x y = some z → OQ X.K X.mg io M H z Q → r vx vy H Q
def mAug (i : Nat) (f : W → W → Option OR) (me : Mo RV) : Mo Fl := mAsg i (bnd (mName i) fun x => bnd me fun y => opM f x (settle y))
theorem ref_aug (X : Cx) {i : Nat} {f : W → W → Option OR} {te : TE} {me : Mo RV} {r : TIp} (hr : ∀ io M H x y vx vy z Q, Rn K mg io M H x vx → Rn K mg io M H y vy → f x y = some z → OQ K mg io M H z Q → r vx vy H Q) (he : RefE K mg ea Wx te me) :
    RefS K mg ea Wx (tAug i te r) (mAug i f me) := by
  have h1 : RefE K mg ea Wx (tOp r (tVar i) te) (bnd (mName i) fun x => bnd me fun y => opM f x (settle y)) := by
    have h := ref_op (X := X) (g := fun a _ => pure a) hr (ref_name (K := K) (mg := mg) (ea := ea) (Wx := Wx) i) he
    intro σ H io Fr s S0 r0 s' e
    refine h σ H io Fr s S0 r0 s' ?_
    rw [← e]
    unfold mBin bnd mName
    cases q : s.r[i]? with
    | none => rfl
    | some u => cases u <;> rfl
  exact ref_asg i h1
end
section
variable {X : Cx} {ea : EA} {Wx : WX} {e o i a b c : Expr} {mo mv mi ma mb mc : Mo RV} {pos p2 tpos : Pos} {r : TSet} {f g : W → W → Option OR}
structure Peo (X : Cx) (ea : EA) (Wx : WX) (e : Option Expr) (m : Mo (Option Int)) : Prop where
  ex : ∃ t, PO X e t ∧ RefO X.K X.mg ea Wx t m
theorem peo_none : Peo X ea Wx none mNoPart := ⟨_, po_none, ref_noPart⟩
theorem peo_some (h : Pee X ea Wx e mv) : Peo X ea Wx (some e) (mPart mv) := let ⟨_, q, r⟩ := h.ex; ⟨_, po_some q, ref_part r⟩
theorem pee_sl {lo hi : Option Expr} {ml mh : Mo (Option Int)} (ho : Pee X ea Wx o mo) (hl : Peo X ea Wx lo ml) (hh : Peo X ea Wx hi mh) : Pee X ea Wx (.Subscript o (.Slice lo hi none p2) pos) (mSl mo ml mh) := by
  obtain ⟨t, q, rr⟩ := ho.ex
  obtain ⟨t', q', rr'⟩ := hl.ex
  obtain ⟨t2, q2, rr2⟩ := hh.ex
  exact ⟨_, pe_slice sl_any q q' q2, ref_sl rr rr' rr2⟩
theorem pee_chain {op op' : CmpOp} (ho : OpM X (compareOp op) f) (ho' : OpM X (compareOp op') g) (ha : Pee X ea Wx a ma) (hb : Pee X ea Wx b mb) (hc : Pee X ea Wx c mc)
    (hm : lastMarks [op, op'] [b, c] = false := by with_unfolding_all rfl) : Pee X ea Wx (.Compare a [op, op'] [b, c] pos) (mChain f g ma mb mc) := by
  obtain ⟨r1, p1, w1⟩ := ho
  obtain ⟨r2, p2, w2⟩ := ho'
  obtain ⟨t, q, rr⟩ := ha.ex
  obtain ⟨t', q', rr'⟩ := hb.ex
  obtain ⟨t2, q2, rr2⟩ := hc.ex
  exact ⟨_, pe_chain p1 p2 q q' q2 hm, ref_chain (X := X) w1 w2 rr rr' rr2⟩
theorem pet_chain {op op' : CmpOp} (ho : OpM X (compareOp op) f) (ho' : OpM X (compareOp op') g) (ha : Pee X ea Wx a ma) (hb : Pee X ea Wx b mb) (hc : Pee X ea Wx c mc)
    (hm : lastMarks [op, op'] [b, c] = false := by with_unfolding_all rfl) : Pet X ea Wx (.Compare a [op, op'] [b, c] pos) (mB (mChain f g ma mb mc)) := by
  obtain ⟨r1, p1, w1⟩ := ho
  obtain ⟨r2, p2, w2⟩ := ho'
  obtain ⟨t, q, rr⟩ := ha.ex
  obtain ⟨t', q', rr'⟩ := hb.ex
  obtain ⟨t2, q2, rr2⟩ := hc.ex
  exact ⟨_, pt_chain p1 p2 q q' q2 hm, ref_test (ref_chain (X := X) w1 w2 rr rr' rr2)⟩
theorem pes_aug {op : Operator} (i : Nat) {x : Str} {pos' : Pos} (hN : X.N.Nodup) (ho : IpM X op f) (he : Pee X ea Wx e mv) (hi : X.N[i]? = some x := by rfl) (hx : Loc X.env.scope x := by first | exact Or.inl rfl | exact Or.inr rfl)
    (hf : X.fn x = true ∨ X.env.scope.names.lookup x = some .local := by first | exact .inl rfl | exact .inr rfl) : Pes X ea Wx (.AugAssign (.Name x pos') op e pos) (mAug i f mv) := by
  obtain ⟨r, p, w⟩ := ho
  obtain ⟨t, q, rr⟩ := he.ex
  exact ⟨_, ps_aug hN hi hx q p hf, ref_aug X w rr⟩
end
end Z
set_option Elab.async false
set_option linter.all false
set_option maxRecDepth 100000
namespace Z
open PySem PySem.Spec PyProof.Rows L2
inductive CT where
  | ty (n : String)
  | own (nm : Str)
deriving DecidableEq
def CT.Is (mg : Str → Option Value) : CT → Value → Prop
  | .ty n, v => v = .type n
  | .own nm, v => ∃ C, mg nm = some (.ref C) ∧ v = .ref C
def tyOfW : W → Option CT
  | .non => some (.ty "NoneType")
  | .bl _ => some (.ty "bool")
  | .int _ => some (.ty "int")
  | .str _ => some (.ty "str")
  | .byt _ => some (.ty "bytes")
  | .tup _ => some (.ty "tuple")
  | .lst _ => some (.ty "list")
  | .frl _ => some (.ty "list")
  | .dK _ => some (.ty "dict")
  | .dT _ => some (.ty "dict")
  | .dF _ => some (.ty "dict")
  | .obj nm _ => some (.own nm)
  | .slt _ _ => none
  | .ref _ => none
inductive TyY (K : PySem.W.Frag) (H : Hp) : V → Value → Prop where
  | base {x : V} {t : Value} (h : TyX K H x t) : TyY K H x t
  | fT {a : Addr} {o : Obj} {kvs : List (List Key × V)} (e : H a = some (.frz o (.dT kvs))) : TyY K H (.ref a) (.type "dict")
theorem kit_ofY {X : Cx} {pins : List (Addr × Obj)} {σ : L2.St} {H : Hp} {s : Shared} {x : V} {u t : Value} (I : Inv X pins σ H s) (rx : RelV x u) (ty : TyY X.K H x t) : ∃ P : Heap → Prop, PySem.W.KitX X.K u t P ∧ P s.heap ∧ u ≠ .builtin "__main__.__loader__#opaque" := by
  rcases ty with h | e
  · exact kit_of I rx h
  · rename_i a ob kvs
    cases rx
    obtain ⟨_, _, _, _, _, o, _, _, here, exact', _⟩ := (show ObjOk X.prog X.w H s.heap a (.frz ob (.dT kvs)) from I.hok a _ e)
    exact ⟨_, PySem.W.kitx_dict, ⟨o, here, exact'.1⟩, nofun⟩
def rIsY (K : PySem.W.Frag) (u : Value) : List V → Hp → VK → Prop := fun xs H Q => ∃ (x c : V) (t : Value) (b : Bool), xs = [x, c] ∧ ClsV c u ∧ TyY K H x t ∧ PySem.W.kitOne K t u = some b ∧ Q (.bl b) H
theorem call_isY {X : Cx} {u : Value} : CallR X (.builtin "isinstance") (rIsY X.K u) := by
  rintro pins s σ H _ _ Q I r ⟨x, c, t, b, rfl, k, ty, e, q⟩
  obtain ⟨v, k2, rfl, rv, rk⟩ := vals2 r
  cases k.eq rk
  exact let ⟨_, Z, p, no⟩ := kit_ofY I rv ty; PySem.W.kia_one Z I.kIn p e no fun tk => ⟨_, H, I.tok tk, show RelV (.bl b) _ from rfl, q⟩
section
variable {K : PySem.W.Frag} {mg : Str → Option Value} {ea : EA} {io io' : List Addr} {Fr Fr' : Addr → Prop} {s s' s2 : S} {σ σ' : L2.St} {H H' : Hp} {w : W} {v : V} {c c' : Cell} {o o' : HO} {a p C : Addr} {ws : List W} {vs : List V} {M M' : Addr → Prop} {Wx : WX}
theorem Rn.ty {ct : CT} (h : Rn K mg io M H w v) (e : tyOfW w = some ct) (hF : ∀ nm, ct = .own nm → ∃ C, mg nm = some (.ref C) ∧ C8.InsC K C) : ∃ t, ct.Is mg t ∧ TyY K H v t := by
  cases w with
  | non =>
    cases e
    rcases h with h | ⟨c, o, a, e, rfl, ha, hc⟩
    · cases h; exact ⟨_, rfl, .base (.base .non)⟩
    · cases c <;> cases e
  | bl b => cases e; obtain rfl := h.bl; exact ⟨_, rfl, .base (.base (.bl b))⟩
  | int b => cases e; obtain rfl := h.int; exact ⟨_, rfl, .base (.base (.int b))⟩
  | str b => cases e; obtain rfl := h.str; exact ⟨_, rfl, .base (.base (.str b))⟩
  | byt b => cases e; obtain rfl := h.byt; exact ⟨_, rfl, .base (.byt b)⟩
  | tup ws =>
    cases e
    rcases h with h | ⟨c, o, a, e, rfl, ha, hc⟩
    · cases h with
      | tup h l q =>
        rcases h with ⟨h, _⟩ | ⟨⟨o, its, n, k1, k2, _⟩, _⟩
        · exact ⟨_, rfl, .base (.base (.tup h))⟩
        · exact ⟨_, rfl, .base (.kTuple k1 k2)⟩
    · cases c <;> cases e
  | lst ws =>
    cases e
    obtain ⟨a, vs, rfl, h, r⟩ := h.lst
    exact ⟨_, rfl, .base (.base (.lst h))⟩
  | frl ws =>
    cases e
    rcases h with h | ⟨c, o, a, e, rfl, ha, hc⟩
    · cases h with
      | frl h l q =>
        rcases h with ⟨h, _⟩ | ⟨o, its, n, k1, k2, _⟩
        · rcases h with h | ⟨oo, h⟩
          · exact ⟨_, rfl, .base (.base (.lst h))⟩
          · exact ⟨_, rfl, .base (.base (.frz h))⟩
        · exact ⟨_, rfl, .base (.kList k1 k2)⟩
    · cases c <;> cases e
  | dK kvs =>
    cases e
    rcases h with h | ⟨c, o, a, e, rfl, ha, hc⟩
    · cases h with
      | dK h l q r =>
        rcases h with h | ⟨oo, h⟩
        · exact ⟨_, rfl, .base (.base (.dK h))⟩
        · exact ⟨_, rfl, .base (.fDict h)⟩
    · cases c <;> cases e
      obtain ⟨vs, rfl, _⟩ := hc
      exact ⟨_, rfl, .base (.base (.dK ha))⟩
  | dT kvs =>
    cases e
    rcases h with h | ⟨c, o, a, e, rfl, ha, hc⟩
    · cases h with
      | dT h l q r =>
        rcases h with h | ⟨oo, h⟩
        · exact ⟨_, rfl, .base (.base (.dT h))⟩
        · exact ⟨_, rfl, .fT h⟩
    · cases c <;> cases e
      obtain ⟨vs, rfl, _⟩ := hc
      exact ⟨_, rfl, .base (.base (.dT ha))⟩
  | dF kvs =>
    cases e
    rcases h with h | ⟨c, o, a, e, rfl, ha, hc⟩
    · cases h with
      | dF h l q r => exact ⟨_, rfl, .fT h⟩
    · cases c <;> cases e
  | obj nm fs =>
    cases e
    obtain ⟨C, hm, ic⟩ := hF nm rfl
    obtain ⟨a, C', dx, vs, rfl, hm', ha, r⟩ := h.obj
    rw [hm] at hm'
    cases hm'
    exact ⟨_, ⟨C, hm, rfl⟩, .base (.base (.ins ha ic.cl ic.ha ic.hn ic.htk ic.hm))⟩
  | slt nm ws => cases e
  | ref n => cases e
def tabAt {α : Type} : List (CT × α) → CT → Option α
  | [], _ => none
  | (c, b) :: r, d => if c = d then some b else tabAt r d
structure IsTab (K : PySem.W.Frag) (mg : Str → Option Value) (u : Value) (tab : List (CT × Bool)) : Prop where
  at' : ∀ c b, tabAt tab c = some b → (∀ t, c.Is mg t → PySem.W.kitOne K t u = some b) ∧ ∀ nm, c = .own nm → ∃ C, mg nm = some (.ref C) ∧ C8.InsC K C
theorem IsTab.nil {u : Value} : IsTab K mg u [] := ⟨fun c b h => by cases h⟩
theorem IsTab.ty {u : Value} {tab : List (CT × Bool)} {n : String} {b : Bool} (h : PySem.W.kitOne K (.type n) u = some b) (r : IsTab K mg u tab) : IsTab K mg u ((.ty n, b) :: tab) := ⟨fun c b' e => by
  unfold tabAt at e
  split at e
  · rename_i hc
    subst hc
    cases e
    exact ⟨fun t ht => by cases ht; exact h, fun nm q => by cases q⟩
  · exact r.at' c b' e⟩
theorem IsTab.own {u : Value} {tab : List (CT × Bool)} {nm : Str} {b : Bool} (hm : mg nm = some (.ref C)) (ic : C8.InsC K C) (h : PySem.W.kitOne K (.ref C) u = some b) (r : IsTab K mg u tab) : IsTab K mg u ((.own nm, b) :: tab) := ⟨fun c b' e => by
  unfold tabAt at e
  split at e
  · rename_i hc
    subst hc
    cases e
    exact ⟨fun t ht => by obtain ⟨D, h1, rfl⟩ := ht; rw [hm] at h1; cases h1; exact h, fun nm' q => by cases q; exact ⟨C, hm, ic⟩⟩
  · exact r.at' c b' e⟩
def mIs (tab : List (CT × Bool)) (m : Mo RV) : Mo RV := bnd m fun x => bnd (look (settle x)) fun w => liftO ((tyOfW w).bind fun c => (tabAt tab c).map fun b => .imm (.bl b))
theorem ref_is {u : Value} {cv : V} {tab : List (CT × Bool)} (T : IsTab K mg u tab) (hc : ClsV cv u) {t : TE} {m : Mo RV} (h : RefE K mg ea Wx t m) : RefE K mg ea Wx (fun σ H Q => (tCons t (tCons (tC cv) tNil)) σ H fun xs H1 => rIsY K u xs H1 Q) (mIs tab m) := by
  intro σ H io Fr s S0 r0 s' e Q hok hex
  refine one2 h S0 e hex fun x v s1 H1 io1 e2 px => ?_
  obtain ⟨S1, T1, R1⟩ := px.settled
  rcases bnd_some e2 with ⟨z, e5, rfl⟩ | ⟨wx, s3, e5, e6⟩
  · obtain ⟨_, _, q, _⟩ := look_ok S1 R1 e5
    cases q
  · obtain ⟨rfl, wx', q, nx⟩ := look_ok S1 R1 e5
    cases q
    obtain ⟨rfl, z, hu, rfl⟩ := liftO_some e6
    obtain ⟨ct, h1, h2⟩ := Option.bind_eq_some_iff.mp hu
    obtain ⟨b, h3, rfl⟩ := Option.map_eq_some_iff.mp h2
    obtain ⟨k1, k2⟩ := T.at' ct b h3
    obtain ⟨t, ht, ty⟩ := nx.ty h1 k2
    exact ⟨v, cv, t, b, rfl, hc, ty, k1 t ht, hok _ rfl _ _ _ ⟨S1, T1, .bl b⟩⟩
def mXf (nms : List Str) (i : Nat) (f : Str) : Mo RV := fun s => match s.r[i]? with
  | some (.exc x) => if x.nm ∈ nms then (match x.fs.lookup f with
    | some w => some (.ok (.val w), s)
    | none => none) else none
  | _ => none
def mIsX (tab : List (CT × Bool)) (i : Nat) : Mo RV := fun s => match s.r[i]? with
  | some (.exc x) => (match tabAt tab (.own x.nm) with
    | some b => some (.ok (.val (.bl b)), s)
    | none => none)
  | _ => none
def XfN (K : PySem.W.Frag) (mg : Str → Option Value) (nms : List Str) (f : Str) : Prop := ∀ nm ∈ nms, ∃ C, mg nm = some (.ref C) ∧ XfC K C ∧ PySem.W.findIn K (.ref C) f = some none
theorem XfN.nil {f : Str} : XfN K mg [] f := fun nm h => by cases h
theorem XfN.cons {f nm : Str} {nms : List Str} (hm : mg nm = some (.ref C)) (h : XfC K C) (hn : PySem.W.findIn K (.ref C) f = some none) (r : XfN K mg nms f) : XfN K mg (nm :: nms) f := fun n hh => by
  rcases List.mem_cons.mp hh with rfl | q
  · exact ⟨C, hm, h, hn⟩
  · exact r n q
structure IsTabX (K : PySem.W.Frag) (mg : Str → Option Value) (u : Value) (tab : List (CT × Bool)) : Prop where
  at' : ∀ nm b, tabAt tab (.own nm) = some b → ∃ C, mg nm = some (.ref C) ∧ ExcC K C ∧ PySem.W.kitOne K (.ref C) u = some b
theorem IsTabX.nil {u : Value} : IsTabX K mg u [] := ⟨fun c b h => by cases h⟩
theorem IsTabX.own {u : Value} {tab : List (CT × Bool)} {nm : Str} {b : Bool} (hm : mg nm = some (.ref C)) (ic : ExcC K C) (h : PySem.W.kitOne K (.ref C) u = some b) (r : IsTabX K mg u tab) : IsTabX K mg u ((.own nm, b) :: tab) := ⟨fun c b' e => by
  unfold tabAt at e
  split at e
  · rename_i hc
    cases hc
    cases e
    exact ⟨C, hm, ic, h⟩
  · exact r.at' c b' e⟩
end
def rIsX (K : PySem.W.Frag) (a : Addr) (cls : Value) (d : Option Addr) (u : Value) : List V → Hp → VK → Prop := fun xs H Q => ∃ (c : V) (C : Addr) (b : Bool), xs = [.ref a, c] ∧ ClsV c u ∧ cls = .ref C ∧ ExcC K C ∧ PySem.W.kitOne K (.ref C) u = some b ∧ (d = none ∨ ∃ dd vs, d = some dd ∧ H dd = some (.xd vs)) ∧ Q (.bl b) H
theorem flying_inst {X : Cx} {a : Addr} {D : Addr} {d : Option Addr} {oe : Obj} {pn pins : List (Addr × Obj)} {σ : L2.St} {H : Hp} {s : Shared} (hz : Zc (.ref D) d oe) (hf : ∃ vs, oe.data = .fields vs) (I : Inv (X.suite a ((a, oe) :: pn)) pins σ H s) (hd : d = none ∨ ∃ dd vs, d = some dd ∧ H dd = some (.xd vs)) :
    ∃ od, PySem.W.InstAt s.heap a oe D od := by
  have here := (I.pin (a, oe) (List.mem_append_left _ (List.mem_cons_self ..))).1
  have plain : PySem.W.notCls oe = true := by
    obtain ⟨_, e⟩ := hf
    unfold PySem.W.notCls
    rw [e]
  rcases hd with rfl | ⟨dd, us, rfl, e⟩
  · exact ⟨none, here, hz.1, plain, by rw [hz.2]; trivial⟩
  · have ns := (show ObjOk X.prog X.w H s.heap dd (.xd us) from I.hok dd _ e)
    exact let ⟨_, n1, _⟩ := ns; let ⟨o, n2, _⟩ := lookIn_ns n1; ⟨some o, here, hz.1, plain, by rw [hz.2]; exact n2⟩
theorem call_isX {X : Cx} {a : Addr} {cls : Value} {d : Option Addr} {oe : Obj} {pn : List (Addr × Obj)} {u : Value} (hz : Zc cls d oe) (hf : ∃ vs, oe.data = .fields vs) : CallR (X.suite a ((a, oe) :: pn)) (.builtin "isinstance") (rIsX X.K a cls d u) := by
  rintro pins s σ H _ _ Q I r ⟨c, D, b, rfl, cv, rfl, C, e, hd, q⟩
  obtain ⟨v, k2, rfl, rv, rk⟩ := vals2 r
  cases rv
  cases cv.eq rk
  obtain ⟨od, J⟩ := flying_inst hz hf I hd
  have known : (PySem.W.clsIn X.K D).isSome = true := by
    obtain ⟨_, z, _⟩ := PySem.W.any_some C.hd
    simp [z]
  exact PySem.W.kia_one (PySem.W.kitx_exc (od := od) known C.hg C.hk C.hs C.ha C.hn C.ht C.hm) I.kIn J e nofun fun tk => ⟨_, H, I.kept (t' := tk) fun _ _ z => z, show RelV (.bl b) _ from rfl, q⟩
section
variable {X : Cx} {ea : EA} {Wx : WX} {e : Expr} {es : List Expr} {m : Mo RV} {u : Value} {cv : V} {tab : List (CT × Bool)} {p p2 pos : Pos} {cn : Str}
theorem pee_is (T : IsTab X.K X.mg u tab) (hc : ClsV cv u) (hn : ∀ p, PE X (.Name cn p) (tC cv)) (hm : X.mg "isinstance" = none) (he : Pee X ea Wx e m) (hg : Gl X "isinstance" := by rfl) (hv : bootBuiltins "isinstance" = some (.builtin "isinstance") := by decide +kernel)
    (hst : starEach [e, .Name cn p2] X.env = (false, eval e X.env) :: starEach [.Name cn p2] X.env := by rfl) (hpl : (backTo pos (starEach [.Name cn p2] X.env)).any (·.1) = false := by rfl)
    (hs2 : starEach [.Name cn p2] X.env = (false, eval (.Name cn p2) X.env) :: starEach [] X.env := by rfl) : Pee X ea Wx (.Call (.Name "isinstance" p) [e, .Name cn p2] [] pos) (mIs tab m) := by
  obtain ⟨t, q, r⟩ := he.ex
  exact ⟨_, pe_callB call_isY hg hm hv (pa_cons q (pa_cons (hn p2) pa_nil hs2) hst) (by decide) (by decide) hst hpl, ref_is T hc r⟩
end
end Z
set_option Elab.async false
set_option linter.all false
set_option maxRecDepth 100000
namespace Z
open PySem PySem.Spec PyProof.Rows L2
section
variable {X : Cx} {ea : EA} {Wx : WX} {e : Expr} {es : List Expr} {m : Mo RV} {u : Value} {cv : V} {tab : List (CT × Bool)} {p p1 p2 pos pos' : Pos} {cn en f : Str} {a : Addr} {cls : Value} {d : Option Addr} {oe : Obj} {pn : List (Addr × Obj)} {nms : List Str}
theorem pee_isX (i : Nat) (hz : Zc cls d oe) (hf : ∃ vs, oe.data = .fields vs) (T : IsTabX X.K X.mg u tab) (hc : ClsV cv u) (hn : ∀ p, PE (X.suite a ((a, oe) :: pn)) (.Name cn p) (tC cv)) (hm : X.mg "isinstance" = none)
    (hi : X.N[i]? = some en := by rfl) (hx : Vis X.env.scope en := by first | exact .inl rfl | exact .inr (.inl rfl)) (hdb : (en == ("__debug__" : Str)) = false := by decide) (hcd : (en == ("__classdict__" : Str)) = false := by decide)
    (hg : Gl X "isinstance" := by rfl) (hv : bootBuiltins "isinstance" = some (.builtin "isinstance") := by decide +kernel)
    (hst : starEach [.Name en p1, .Name cn p2] X.env = (false, eval (.Name en p1) X.env) :: starEach [.Name cn p2] X.env := by rfl) (hpl : (backTo pos (starEach [.Name cn p2] X.env)).any (·.1) = false := by rfl)
    (hs2 : starEach [.Name cn p2] X.env = (false, eval (.Name cn p2) X.env) :: starEach [] X.env := by rfl) : Pee (X.suite a ((a, oe) :: pn)) ⟨a, cls, d⟩ Wx (.Call (.Name "isinstance" p) [.Name en p1, .Name cn p2] [] pos) (mIsX tab i) := by
  have pv : PE (X.suite a ((a, oe) :: pn)) (.Name en p1) (tVar i) := pe_var hi hx hdb hcd
  refine ⟨_, pe_callB (X := X.suite a ((a, oe) :: pn)) (call_isX (u := u) hz hf) hg hm hv (pa_cons pv (pa_cons (hn p2) pa_nil hs2) hst) (by decide) (by decide) hst hpl, ?_⟩
  intro σ H io Fr s S0 r0 s' e Q hok hex
  unfold mIsX at e
  split at e
  · rename_i x q
    split at e
    · rename_i b hb
      cases e
      obtain ⟨C, hC, ic, hk⟩ := T.at' _ _ hb
      obtain ⟨h1, D, h2, h3, h4⟩ := S0.exc i x q
      simp only at h1 h3 h4
      rw [show X.mg x.nm = some (.ref C) from hC] at h2
      cases h2
      refine ⟨_, h1, ?_⟩
      refine ⟨cv, C, b, rfl, hc, h3, ic, hk, ?_, hok _ rfl _ _ _ ⟨S0, .refl, .bl b⟩⟩
      rcases h4 with h4 | ⟨dd, vs, k1, k2, _⟩
      · exact .inl h4.2
      · exact .inr ⟨dd, vs, k1, k2⟩
    · cases e
  · cases e
theorem pee_xf (i : Nat) (hz : Zc cls d oe) (hf : ∃ vs, oe.data = .fields vs) (hN : XfN X.K X.mg nms f) (hi : X.N[i]? = some en := by rfl) (hx : Vis X.env.scope en := by first | exact .inl rfl | exact .inr (.inl rfl)) (hdb : (en == ("__debug__" : Str)) = false := by decide) (hcd : (en == ("__classdict__" : Str)) = false := by decide)
    (hb : attributeBase (.Name en p1) f X.env (eval (.Name en p1) X.env) = eval (.Name en p1) X.env := by rfl) : Pee (X.suite a ((a, oe) :: pn)) ⟨a, cls, d⟩ Wx (.Attribute (.Name en p1) f pos) (mXf nms i f) := by
  have pv : PE (X.suite a ((a, oe) :: pn)) (.Name en p1) (tVar i) := pe_var hi hx hdb hcd
  by_cases h : ∃ nm ∈ nms, ∃ C, X.mg nm = some (.ref C) ∧ cls = .ref C
  · obtain ⟨nm, hin, C, hC, rfl⟩ := h
    obtain ⟨C', hC', xf, hno⟩ := hN nm hin
    rw [hC] at hC'
    cases hC'
    refine ⟨_, pe_xf xf hno hz hf pv hb, ?_⟩
    intro σ H io Fr s S0 r0 s' e Q hok hex
    unfold mXf at e
    split at e
    · rename_i x q
      split at e
      · split at e
        · rename_i w hw
          cases e
          obtain ⟨h1, D, h2, h3, h4⟩ := S0.exc i x q
          simp only at h1 h3 h4
          rcases h4 with ⟨h4, _⟩ | ⟨dd, vs, k1, k2, k3, k4⟩
          · rw [h4] at hw; cases hw
          · obtain ⟨v, l1, l2⟩ := Rkv.lookup (vs := vs) k4 hw
            exact ⟨_, h1, rfl, rfl, dd, vs, v, k1, k2, l1, hok _ rfl v _ _ ⟨S0, .refl, l2⟩⟩
        · cases e
      · cases e
    · cases e
  · refine ⟨fun _ _ _ => False, ⟨fun _ _ _ _ _ _ h => h.elim⟩, ?_⟩
    intro σ H io Fr s S0 r0 s' e Q hok hex
    unfold mXf at e
    split at e
    · rename_i x q
      split at e
      · rename_i hin
        obtain ⟨h1, D, h2, h3, h4⟩ := S0.exc i x q
        exact h ⟨x.nm, hin, D, h2, h3⟩
      · cases e
    · cases e
end
abbrev Entered (qual : Str) (scope : Scope) (f : Addr) (cd : Value) (ps : List Str) (us : List Value) (s s1 : Shared) : Prop :=
  let kinds := (envOfC qual scope s.heap.objs.size f cd).kindOf
  InCallC s s.heap.objs.size (bindL kinds (ps.zip us) fun _ => none) (cellsFrom (s.heap.objs.size + 1) scope.names []) (bindC kinds (ps.zip us) fun _ => none) s1
theorem inv_startW {CX : CXT} {P : Program} {w : World} {K : PySem.W.Frag} {mg : Str → Option Value} {base : Heap} {N ps : List Str} {qual : Str} {scope : Scope} {f : Addr} {cd : Value} {A : Around} {outer : List Env} {s s1 : Shared} {H : Hp} {E : XK} {us : List Value} {vs : List V}
    (S : FnScope N ps scope) (e0 : Env0 P w K mg base A outer s H) (hl : vs.length = ps.length) (r : Vals vs us)
    (x : Entered qual scope f cd ps us s s1) :
    Inv { cxOf CX P w K mg base N qual scope f cd A outer s H E with calm := false } [] (L2.start N vs) H s1 := by
  have quiet : Env0 P w K mg base { A with handled := none } outer s H := { e0 with frames := e0.frames }
  have I := inv_start (CX := CX) (E := E) S rfl quiet hl r x
  exact { I with ok := { I.ok with hd := (fun z => nomatch z), frames := Around.frames_deeper e0.frames } }
structure FnW (P : Program) (w : World) (K : PySem.W.Frag) (mg : Str → Option Value) (base : Heap) (k : Nat) (f : Addr) (fd : FuncData) (ps : List Str) (m : Fn) : Prop where
  run : ∀ (A : Around) (outer : List Env) (s : Shared) (H : Hp) (args : Args) (us : List Value) (vs : List V) (Q : VK) (E : XK), L2H.RoomH k A → Env0 P w K mg base A outer s H → BindsTo s fd args (ps.zip us) → Vals vs us → spM K mg ps.length m vs H Q E →
    codeAny (model P w) A (.call (.ref f) args) (CR (L2.CX P w) outer P w H s Q E) s
theorem FnW.toM {P : Program} {w : World} {K : PySem.W.Frag} {mg : Str → Option Value} {base : Heap} {k : Nat} {f : Addr} {fd : FuncData} {ps : List Str} {m : Fn} (F : FnW P w K mg base k f fd ps m) : FnM P w K mg base k f fd ps m :=
  ⟨⟨fun vs H Q E h => h.1, fun A outer s H args us vs Q E hr => F.run A outer s H args us vs Q E (L2H.roomH_of hr)⟩⟩
theorem par_lives {N ps : List Str} {sc : Scope} {n : Nat} (S : FnScope N ps sc) {us : List Value} : ∀ y ∈ ps.zip us, sc.names.lookup y.1 = some .local ∨ (sc.names.lookup y.1 = some .cell ∧ ((cellsFrom n sc.names []).lookup y.1).isSome = true) := by
  rintro y hy
  exact (S.par y.1 (List.of_mem_zip hy).1).imp id fun q => ⟨q, PySem.W.cellsFrom_some _ _ _ (.inl q)⟩
section
variable {K : PySem.W.Frag} {mg : Str → Option Value}
theorem spM_body {ps N : List Str} {n : Nat} {body : Mo Fl} {t : TS} {vs : List V} {H : Hp} {Q : VK} {E : XK} (hn : N.length = n) (hps : ps.length ≤ n) (rf : RefS K mg ea0 (fun cls d _ H => E cls d H) t body) (sp : spM K mg ps.length (fnM n body) vs H Q E) :
    t { nx := fun _ H' => Q .non H', rt := Q } (L2.start N vs) H := by
  obtain ⟨hl, io, Fr, G, ws, r0, G', g, R, e, hok, hex⟩ := sp
  obtain ⟨S0, mo⟩ := sim_start (ea := ea0) (s := ⟨[], G⟩) hn (by omega) g R
  unfold fnM at e
  have T0 : ∀ {M' : Addr → Prop} {io' : List Addr} {H' : Hp}, Stp io (Ms io Fr ⟨ws.map SV.val ++ List.replicate (n - ws.length) SV.non, G⟩ (L2.start N vs)) Fr H io' M' H' → Stp io (Mu io Fr) Fr H io' M' H' := fun T =>
    (Stp.refl.less fun b z => (mo b).1 z : Stp io (Mu io Fr) Fr H io (Ms io Fr ⟨ws.map SV.val ++ List.replicate (n - ws.length) SV.non, G⟩ (L2.start N vs)) H).trans T
  cases k : body ⟨ws.map SV.val ++ List.replicate (n - ws.length) SV.non, G⟩ with
  | none => rw [k] at e; cases e
  | some pr =>
    obtain ⟨rb, sb⟩ := pr
    rw [k] at e
    refine rf _ _ _ _ _ S0 _ _ k _ (fun q σ' H' io' px => ?_) (fun q σ' H' io' px => ?_) (fun q σ' H' io' px => ?_) (fun f q v H' io' px => ?_) fun xx q cls d σ' H' io' px => ?_
    · subst q
      cases e
      exact hok _ rfl _ _ _ ⟨px.1.g.less (s := sb) fun b z => .inl z, (T0 px.2).less fun b z => z.imp id .inl, .non⟩
    · subst q; cases e
    · subst q; cases e
    · subst q
      cases e
      cases f with
      | val w => exact hok _ rfl v H' io' ⟨px.1, T0 px.2.1, px.2.2⟩
      | own c =>
        obtain ⟨a, o, h1, h2, h3, h4, h5, h6⟩ := px
        exact hok _ rfl v H' io' ⟨a, o, h1, h2, h3, h4, T0 h5, h6⟩
    · subst q
      cases e
      obtain ⟨x1, x2, C, x3, x4, x5⟩ := px
      have le : ∀ b, Mu io' Fr b → Ms io' Fr sb σ' b := fun b z => z.imp id .inl
      refine hex _ rfl cls d H' io' ⟨x1.g.less (s := sb) fun b z => .inl z, (T0 x2).less le, C, x3, x4, x5.imp id ?_⟩
      rintro ⟨dd, us, y1, y2, y3, y4⟩
      exact ⟨dd, us, y1, y2, fun z => y3 (le _ z), y4.pers (.less le)⟩
def gives : Flow → Value
  | .ret u => u
  | _ => .none
theorem body_end {X : Cx} {s' : Shared} {Q : VK} {fl : Flow} (hf : X.fs = frs X.outer) (hx : X.ex = []) (h : SP X [] { nx := fun _ H' => Q .non H', rt := Q } fl s') : CE X.outer X.prog X.w X.H_0 X.s_0 Q (gives fl) s' := by
  have un : ∀ {σ : L2.St} {H' : Hp}, Inv X [] σ H' s' → Un (frs X.outer) [] X.H_0 H' X.s_0.heap s'.heap := fun J => by
    rw [← hf, ← hx]
    exact J.base
  cases fl with
  | next => exact let ⟨_, H', J, q⟩ := h; ⟨.non, H', J.os, J.bare, un J, J.hok, rfl, q⟩
  | ret u => exact let ⟨v, _, H', J, rv, q⟩ := h; ⟨v, H', J.os, J.bare, un J, J.hok, rv, q⟩
  | brk => exact let ⟨_, _, _, q⟩ := h; False.elim q
  | cont => exact let ⟨_, _, _, q⟩ := h; False.elim q
theorem defW {P : Program} {w : World} {base : Heap} {x qual : Str} {st : Stmt} {f : Addr} {fd : FuncData} {N ps : List Str} {k n : Nat} {body : Mo Fl} (F : Fun K x qual st f fd) (S : FnScope N ps (defScope st)) (hn : N.length = n)
    (hb : ∀ (cdv : Value) (A : Around) (outer : List Env) (s : Shared) (H : Hp) (E : XK), L2H.RoomH k (A.deeper (envOfC qual (defScope st) s.heap.objs.size f cdv)) →
      Pess { cxOf (L2.CX P w) P w K mg base N qual (defScope st) f cdv A outer s H E with calm := false } ea0 (fun cls d _ H => E cls d H) (defBody st) body) : FnW P w K mg base (k + 1) f fd ps (fnM n body) := by
  constructor
  intro A outer s H args us vs Q E room e0 bt rv sp
  obtain ⟨_, _, _, _, _, _, cdv, _, _, rfl, lk, hcd⟩ := F.ex
  have born : ∀ b o, base.get? b = some o → s.heap.get? b = some o := fun b o e => (e0.bs b o e).1
  have kin := e0.mod.kin.keeps born
  refine codeAny_call_function room.depth (kin _ _ lk) rfl S.co S.gen rfl (PySem.W.codeRec_of kin hcd) (bt _ _ _ _ (wpAny_newFunctionEnv_cells S.kind (par_lives S) ?_))
  rintro _ rfl s1 x
  obtain ⟨t, p, rf⟩ := (hb cdv A outer s H E (room.deeper _)).ex
  have few : ps.length ≤ n := by rw [← hn, ← S.pre]; exact List.length_take_le' _ _
  refine ⟨(e0.mod.nolimit.keeps born).keeps x.toInCall.keep, codeAny_func (wpAny_mono (p.run [] s1 _ H _ (inv_startW S e0 sp.1 rv x) (spM_body hn few rf sp)) (fun fl s' h => ?_) fun _ _ h => h)⟩
  have out := body_end rfl rfl h
  cases fl <;> exact out
end
section
variable {X : Cx} {ea : EA} {Wx : WX} {e : Expr} {es : List Expr} {ms : Mo (List RV)} {m : Fn} {k : Nat} {f : Addr} {fd : FuncData} {ps : List Str} {x : Str} {p pos pos' p2 : Pos}
theorem call_at {CX : CXT} {A1 : Around} {pins : List (Addr × Obj)} {σ : L2.St} {H : Hp} {s : Shared} {Q : VK} {us : List Value} {E : XK} {Ex : Value → Shared → Prop} (I : Inv X pins σ H s) (h : codeAny (model X.prog X.w) A1 (.call (.ref f) ⟨us, []⟩) (CR CX X.stack X.prog X.w H s Q E) s)
    (ex : ∀ e s', CX X.stack H s E e s' → Ex e s') : wpAny (model X.prog X.w) A1 (call (.ref f) us) (EP X pins σ Q) Ex s := by
  refine wpAny_call (codeAny_mono h ?_)
  rintro (er | (_ | _ | _ | u)) s' q
  · exact ex er s' q
  all_goals first | exact q.elim | exact I.after q
theorem binds0 {pins : List (Addr × Obj)} {σ : L2.St} {H : Hp} {s : Shared} {us : List Value} {n : Nat} (hb : Binds X.K fd ps []) (I : Inv X pins σ H s) (hl : us.length = ps.length) : BindsTo s fd ⟨us, []⟩ (ps.zip us) := by
  simpa using hb s us I.kIn (by simpa using hl)
def quiet (m : Mo RV) : Mo RV := fun s => match m s with
  | some (.ok x, s') => some (.ok x, s')
  | _ => none
theorem pes_raiseT {C : Addr} {t : Str} {j : Nat} {bmB : List Value} {B newId initId : String} (hC : X.mg x = some (.ref C)) (F : ExcBaseFacts B newId initId bmB) (q : PySem.W.excIn X.K C bmB newId = true) (kC : PySem.W.keepIn X.K (.ref C) = true) (r : Raises X (.ref C)) (tk : Takes X Wx) (hc : X.calm = true := by rfl) (hg : Gl X x := by rfl)
    (hdb : (x == ("__debug__" : Str)) = false := by decide) : Pes X ea Wx (.Raise (some (.Call (.Name x p) [.Constant (.str t) j p2] [] pos)) none pos') (mRaise0 x) :=
  ⟨_, ps_raise hc tk (pmk_own F q hC kC r hg hdb), ref_raise0 hC⟩
end
end Z
set_option Elab.async false
set_option linter.all false
set_option maxRecDepth 100000
namespace Z
open PySem PySem.Spec PyProof.Rows L2
section
variable {K : PySem.W.Frag} {mg : Str → Option Value} {ea : EA} {io io' : List Addr} {Fr Fr' : Addr → Prop} {s s' s2 : S} {σ σ' : L2.St} {H H' : Hp} {w : W} {v : V} {c c' : Cell} {o o' : HO} {a p C : Addr} {ws : List W} {vs : List V} {M M' : Addr → Prop} {Wx : WX}
def chk1 (nm : Str) : List W → Mo Unit
  | x :: _ => fun s => match derefW s x with
    | some (.obj nm' _) => if nm' = nm then some (.ok (), s) else none
    | _ => none
  | _ => stk
noncomputable def toLen : RV → Mo RV
  | .val (.int n) => if Lk n then ret (.val (.int n)) else stk
  | _ => stk
noncomputable def mLenO (nm : Str) (m : Fn) (ms : Mo (List RV)) : Mo RV := bnd ms fun xs => bnd (freezeAll xs) fun ws => if ws.length = 1 then bnd (chk1 nm ws) fun _ => bnd (callG m ws) toLen else stk
theorem chk1_ok (S0 : Sim K mg ea io Fr s σ H) {nm : Str} (hC : mg nm = some (.ref C)) (R : Rws K mg io (Ms io Fr s σ) H ws vs) {r : Except Ex Unit} (e : chk1 nm ws s = some (r, s')) : s' = s ∧ r = .ok () ∧ ∃ a dx fs rest, vs = .ref a :: rest ∧ H a = some (.ins C dx fs) := by
  unfold chk1 at e
  split at e
  · rename_i x rest
    split at e
    · rename_i nm' fs hd
      split at e
      · rename_i hc
        subst hc
        cases e
        obtain ⟨v, r', rfl, h1, h2⟩ := R.cons_inv
        obtain ⟨a, C', dx, us, rfl, hm, hH, rk⟩ := (deref_ok S0 h1 hd).obj
        rw [hC] at hm
        cases hm
        exact ⟨rfl, rfl, a, dx, us, r', rfl, hH⟩
      · cases e
    · cases e
  · cases e
structure NfTab (K : PySem.W.Frag) (mg : Str → Option Value) (C : Addr) (tys : List CT) : Prop where
  at' : ∀ ct ∈ tys, (∀ t, ct.Is mg t → PySem.W.notFirst K C t = true) ∧ ∀ nm, ct = .own nm → ∃ C, mg nm = some (.ref C) ∧ C8.InsC K C
theorem NfTab.nil : NfTab K mg C [] := ⟨fun ct h => by cases h⟩
theorem NfTab.ty {tys : List CT} {n : String} (h : PySem.W.notFirst K C (.type n) = true) (r : NfTab K mg C tys) : NfTab K mg C (.ty n :: tys) := ⟨fun ct hh => by
  rcases List.mem_cons.mp hh with rfl | q
  · exact ⟨fun t ht => by cases ht; exact h, fun nm q => by cases q⟩
  · exact r.at' ct q⟩
theorem NfTab.own {tys : List CT} {nm : Str} {D : Addr} (hm : mg nm = some (.ref D)) (ic : C8.InsC K D) (h : PySem.W.notFirst K C (.ref D) = true) (r : NfTab K mg C tys) : NfTab K mg C (.own nm :: tys) := ⟨fun ct hh => by
  rcases List.mem_cons.mp hh with rfl | q
  · exact ⟨fun t ht => by obtain ⟨E, h1, rfl⟩ := ht; rw [hm] at h1; cases h1; exact h, fun nm' q => by cases q; exact ⟨D, hm, ic⟩⟩
  · exact r.at' ct q⟩
end
section
variable {X : Cx} {ea : EA} {Wx : WX} {m : Fn} {k n : Nat} {f C : Addr} {fd : FuncData} {ps : List Str} {nm : Str} {A1 : Around}
theorem Sub.env0 {pins : List (Addr × Obj)} {σ : L2.St} {H : Hp} {s : Shared} (sb : Sub X k A1) (I : Inv X pins σ H s) : Env0 X.prog X.w X.K X.mg X.base A1 X.stack s H :=
  { I.env0 with frames := sb.fr.trans I.env0.frames }
theorem run_fnSub {pins : List (Addr × Obj)} {σ : L2.St} {H : Hp} {s : Shared} {Q : VK} {us : List Value} {vs : List V} (sb : Sub X k A1) (F : FnM X.prog X.w X.K X.mg X.base k f fd ps m) (hb : Binds X.K fd ps []) (tk : Takes X Wx)
    (I : Inv X pins σ H s) (r : Vals vs us) (h : spM X.K X.mg ps.length m vs H Q (WE Wx σ)) : wpAny (model X.prog X.w) A1 (call (.ref f) us) (EP X pins σ Q) X.xe s :=
  call_at I (F.ok.run A1 X.stack s H ⟨us, []⟩ us vs Q (WE Wx σ) sb.room (Sub.env0 sb I) (binds0 (n := 0) hb I (r.length.symm.trans h.1)) r h) fun e s' q => passAt tk σ pins H s e s' I q
variable {tys : List CT}
theorem spM_then {K : PySem.W.Frag} {mg : Str → Option Value} {io : List Addr} {Fr : Addr → Prop} {s s' : S} {σ : L2.St} {H : Hp} {ws : List W} {vs : List V} {g : RV → Mo RV} (S0 : Sim K mg ea io Fr s σ H) (R : Rws K mg io (Ms io Fr s σ) H ws vs) (hn : vs.length = n) {r : Except Ex RV} (e : bnd (callG m ws) g s = some (r, s')) {Q : VK}
    (hok : ∀ x s1, g x s1 = some (r, s') → ∀ v H' io', PostE K mg ea io Fr s σ H s1 io' H' x v → Q v H') (hex : ∀ x, r = .error x → ∀ cls d H' io', PostX K mg ea io Fr s σ H s' σ io' H' x cls d → Wx cls d σ H') : spM K mg n m vs H Q (WE Wx σ) := by
  rcases bnd_some e with ⟨x, e1, rfl⟩ | ⟨x, s1, e1, e2⟩
  · exact spM_use S0 R hn e1 (fun _ q => by cases q) fun x' q cls d H' io' p => by
      cases q
      exact hex _ rfl cls d H' io' p
  · exact spM_use S0 R hn e1 (fun x' q v H' io' p => by cases q; exact hok _ _ e2 v H' io' p) (fun _ q => by cases q)
end
section
variable {X : Cx} {ea : EA} {Wx : WX} {m : Fn} {k n : Nat} {f C : Addr} {fd : FuncData} {ps : List Str} {nm : Str} {a b e : Expr} {ma mb : Mo RV} {ms : Mo (List RV)} {pos p : Pos} {g : RV → RV → Mo RV}
theorem pee_lenO (hC : X.mg nm = some (.ref C)) (F : FnM X.prog X.w X.K X.mg X.base k f fd ps m) (hp : ps.length = 1) (hr : Room (k + 1) X.A) (hb : Binds X.K fd ps []) (tk : Takes X Wx)
    (hs : PySem.W.findIn X.K (.ref C) "__len__" = some (some (.ref f))) (hf : PySem.W.isFn X.K (.ref f) = true) (hm : X.mg "len" = none) (ha : Pea X ea Wx [e] ms) (hg : Gl X "len" := by rfl) (hv : bootBuiltins "len" = some (.builtin "len") := by decide +kernel)
    (he : starEach [e] X.env = (false, eval e X.env) :: starEach [] X.env := by rfl) (hpl : (backTo pos (starEach [] X.env)).any (·.1) = false := by rfl) : Pee X ea Wx (.Call (.Name "len" p) [e] [] pos) (mLenO nm m ms) := by
  obtain ⟨t, q1, r1⟩ := ha.ex
  refine ⟨fun σ H Q => t σ H fun vs H1 => ∃ a dx fs, vs = [.ref a] ∧ H1 a = some (.ins C dx fs) ∧ spM X.K X.mg ps.length m vs H1 (fun v H' => ∃ i, v = .int i ∧ 0 ≤ i ∧ i < 2 ^ 63 ∧ Q (.int i) H') (WE Wx σ), ⟨fun pins s σ H Q I h => ?_⟩, ?_⟩
  · refine wpAny_Call_Name_kw (ld_blt I hg hm hv ?_ (by decide) (by decide))
    refine PyProof.Rows.callWith_builtin1 (thn (q1.run pos pins s σ H _ I h) fun us s1 ⟨vs, H1, I1, rv, q⟩ => ?_) he hpl
    obtain ⟨a, dx, fs, rfl, ha, q⟩ := q
    obtain rfl := Vals.ref1 rv
    obtain ⟨mA, J, _⟩ := ins_get I1.hok ha
    obtain ⟨od, J, _⟩ := J.look
    obtain ⟨m0, hF⟩ := I1.fr
    refine PySem.W.len_K hF I1.ok.mod.kin J hs hf (wpAny_mono (run_fnSub (Sub.in1 ⟨hr, rfl⟩) F hb tk I1 rv q) (fun v s' hh => ?_) fun _ _ x => x)
    obtain ⟨z, H', I', rz, i, rfl, h0, h1, qq⟩ := hh
    obtain ⟨t, rfl⟩ := rz
    exact ⟨⟨h0, h1⟩, .int i, H', I'.tok _, ⟨_, rfl⟩, qq⟩
  · intro σ H io Fr s S0 r0 s' e Q hok hex
    refine arg2 r1 S0 e hex fun xs vs s1 H1 io1 e2 px R1 => ?_
    rcases bnd_some e2 with ⟨x, e3, rfl⟩ | ⟨ws, s2, e3, e4⟩
    · obtain ⟨_, _, _, _, q, _⟩ := freezeAll_ok px.1 R1 e3
      cases q
    · obtain ⟨_, m2, S2, ws', q, r2⟩ := freezeAll_ok px.1 R1 e3
      cases q
      have T2 := px.2.less m2
      split at e4
      case isFalse => cases e4
      rename_i h1l
      rcases bnd_some e4 with ⟨z, e5, _⟩ | ⟨_, s3, e5, e6⟩
      · obtain ⟨_, q, _⟩ := chk1_ok S2 hC r2 e5
        cases q
      · obtain ⟨rfl, _, a, dx, fs, rest, hv, hH⟩ := chk1_ok S2 hC r2 e5
        subst hv
        have hr0 : rest = [] := by
          have := r2.1
          rw [h1l] at this
          simp at this
          exact this
        subst hr0
        refine ⟨a, dx, fs, rfl, hH, spM_then (n := ps.length) S2 r2 (by simp [hp]) e6 (fun z s1 e7 v H' io' px => ?_) fun x q cls d H' io' p => hex x q cls d H' io' ⟨p.1, T2.trans p.2.1, p.2.2⟩⟩
        unfold toLen at e7
        split at e7
        · rename_i i
          split at e7
          · rename_i hi
            cases e7
            obtain ⟨S7, T7, R7⟩ := px
            cases R7
            exact ⟨i, rfl, hi.1, hi.2, hok _ rfl _ _ _ ⟨S7, T2.trans T7, .int _⟩⟩
          · cases e7
        · cases e7
end
end Z
set_option linter.all false
set_option Elab.async false
set_option maxRecDepth 100000
set_option maxHeartbeats 1000000
namespace Z
open PySem PySem.Spec PyProof.Rows L2
structure Src where
  src : Addr
  len : Nat
  st : Addr → Nat → Heap → Prop
  fin : Addr → Option HO
  yl : Nat → V → Hp → Prop
  ok : Hp → Prop
def Src.at (S : Src) (it : Addr) (i : Nat) : HO := .ext (S.st it i)
def put (H : Hp) (a : Addr) (x : Option HO) : Hp := fun b => if b = a then x else H b
structure Steps (X : Cx) (A : Around) (it : Addr) (S : Src) : Prop where
  ty : ∀ {pins : List (Addr × Obj)} {σ : L2.St} {H : Hp} {s : Shared}, Inv X pins σ H s → H it = some (S.at it 0) → ∃ T i, s.TypeIs (.ref it) T ∧ Slot T "__next__" i
  more : ∀ {pins : List (Addr × Obj)} {σ : L2.St} {H : Hp} {s : Shared} {i : Nat} {Q : Option Value → Shared → Prop} {E : Value → Shared → Prop}, Inv X pins σ H s → H it = some (S.at it i) → S.ok H → i < S.len →
    (∀ v u s', S.yl i v H → RelV v u → Inv X pins σ (upd H it (S.at it (i + 1))) s' → Q (some u) s') → wpAny (model X.prog X.w) A (pyNext (.ref it)) Q E s
  last : ∀ {pins : List (Addr × Obj)} {σ : L2.St} {H : Hp} {s : Shared} {Q : Option Value → Shared → Prop} {E : Value → Shared → Prop}, Inv X pins σ H s → H it = some (S.at it S.len) → S.ok H →
    (∀ s', Inv X pins σ (put H it (S.fin it)) s' → Q none s') → wpAny (model X.prog X.w) A (pyNext (.ref it)) Q E s
def Src.all (S : Src) (ys : List V) (H : Hp) : Prop := ∀ j v, ys[j]? = some v → S.yl j v H
structure Mild (S : Src) : Prop where
  ok : ∀ {H H' : Hp}, S.ok H → H' S.src = H S.src → S.ok H'
  yl : ∀ {H H' : Hp} {i : Nat} {v : V}, S.yl i v H → (∀ b xs, H b = some (.tup xs) → H' b = some (.tup xs)) → S.yl i v H'
def spIt (C : Addr) (fl : Str) (mk : V → Src → Prop) : Sp := fun vs H Q _ => ∃ a dx fs u S, vs = [.ref a] ∧ H a = some (.ins C dx fs) ∧ fs.lookup fl = some u ∧ mk u S ∧ S.ok H ∧ ∀ it, H it = none → Q (.ref it) (upd H it (S.at it 0))
structure IterC (K : PySem.W.Frag) (C fi fl : Addr) : Prop where
  it : PySem.W.findIn K (.ref C) "__iter__" = some (some (.ref fi))
  itF : PySem.W.isFn K (.ref fi) = true
  ln : PySem.W.findIn K (.ref C) "__len__" = some (some (.ref fl))
  lnF : PySem.W.isFn K (.ref fl) = true
section
variable {X : Cx} {ea : EA} {Wx : WX} {m : Fn} {k n : Nat} {f C : Addr} {fd : FuncData} {ps : List Str} {nm : Str} {A A1 : Around} {pins : List (Addr × Obj)} {σ : L2.St} {H : Hp} {s : Shared}
variable {fi flA : Addr} {fdI fdL : FuncData} {psI psL : List Str} {fl : Str} {mk : V → Src → Prop} {a q : Addr} {dx : Addr} {fs : List (Str × V)} {u : V} {S : Src} {Q : VK} {Rs : Result → Shared → Prop}
structure IterP (X : Cx) (C : Addr) (fl : Str) (mk : V → Src → Prop) (n : Nat) (m : Fn) (fi flA : Addr) (fdI fdL : FuncData) (psI psL : List Str) : Prop where
  cls : IterC X.K C fi flA
  FI : FnOk X.prog X.w X.K X.mg X.base (L2.CX X.prog X.w) n fi fdI psI (spIt C fl mk)
  bI : Binds X.K fdI psI []
  FL : FnM X.prog X.w X.K X.mg X.base n flA fdL psL m
  one : psL.length = 1
  bL : Binds X.K fdL psL []
end
end Z
set_option Elab.async false
set_option linter.all false
set_option maxRecDepth 100000
set_option Elab.async false
set_option linter.all false
set_option maxRecDepth 100000
set_option Elab.async false
set_option linter.all false
set_option maxRecDepth 100000
namespace Z
open PySem PySem.Spec PyProof.Rows L2
section
variable {K : PySem.W.Frag} {mg : Str → Option Value} {ea : EA} {io io' : List Addr} {Fr Fr' Fr2 : Addr → Prop} {s s' s2 : S} {σ σ' : L2.St} {H H' : Hp} {w : W} {v : V} {c c' : Cell} {o o' : HO} {a p C : Addr} {ws : List W} {vs : List V} {M M' : Addr → Prop} {Wx : WX}
theorem ms_cell : ∀ b, Ms (io ++ [a]) Fr { s with G := s.G ++ [c] } σ b → Ms io (pls Fr a) s σ b := fun b z => by
  rcases z with z | z
  · rcases List.mem_append.mp z with z | z
    · exact .inl z
    · exact .inr (.inl (.inr (by simpa using z)))
  · exact .inr (FrO.mono (fun b z => .inl z) b z)
theorem Sim.cell (x : Sim K mg ea io (pls Fr a) s σ H) (ha : H a = some o) (nf : ¬ FrO Fr s.r σ a) (hc : Rc K mg io (Ms io (pls Fr a) s σ) H c o) :
    Sim K mg ea (io ++ [a]) Fr { s with G := s.G ++ [c] } σ H ∧ Stp io (Ms io (pls Fr a) s σ) (pls Fr a) H (io ++ [a]) (Ms (io ++ [a]) Fr { s with G := s.G ++ [c] } σ) H := by
  have q : Pers io (Ms io (pls Fr a) s σ) H (io ++ [a]) (Ms (io ++ [a]) Fr { s with G := s.G ++ [c] } σ) H := ⟨fun _ _ h _ => h, fun b z => .inl (ms_cell b z), fun n b h => by rw [List.getElem?_append_left (get_lt h)]; exact h⟩
  have nio : a ∉ io := fun z => x.g.dj a z (.inl (.inr rfl))
  refine ⟨⟨x.len, ⟨by simp [x.g.len], fun n b d h1 h2 => ?_, ?_, fun b hb z => ?_, fun b z => x.g.fr b (FrO.mono (fun b z => .inl z) b z)⟩, fun i u e => ?_, fun i d e => ?_, x.dist, fun i y e => ?_⟩, q, fun b z => rfl, fun b u e => ⟨u, e⟩⟩
  · rcases Nat.lt_or_ge n io.length with hn | hn
    · rw [List.getElem?_append_left hn] at h1
      rw [List.getElem?_append_left (by rw [← x.g.len]; exact hn)] at h2
      obtain ⟨o, h3, h4⟩ := x.g.cell n b d h1 h2
      exact ⟨o, h3, h4.pers q⟩
    · rw [List.getElem?_append_right hn] at h1
      rw [List.getElem?_append_right (by rw [← x.g.len]; exact hn)] at h2
      rw [← x.g.len] at h2
      cases k : n - io.length with
      | zero =>
        rw [k] at h1 h2
        simp at h1 h2
        subst h1 h2
        exact ⟨o, ha, hc.pers q⟩
      | succ m => rw [k] at h1; simp at h1
  · rw [List.nodup_append]
    exact ⟨x.g.nd, by simp, fun b hb c hc => by simp at hc; subst hc; exact fun z => nio (z ▸ hb)⟩
  · rcases List.mem_append.mp hb with hb | hb
    · exact x.g.dj b hb (FrO.mono (fun b z => .inl z) b z)
    · simp at hb
      subst hb
      exact nf z
  · obtain ⟨v, h1, h2⟩ := x.val i u e
    exact ⟨v, h1, h2.pers q⟩
  · obtain ⟨b, o, h1, h2, h3, h4⟩ := x.own i d e
    exact ⟨b, o, h1, h2, h3.pers q, fun z => h4 (.inl z)⟩
  · obtain ⟨h1, h2⟩ := x.exc i y e
    exact ⟨h1, h2.pers q⟩
def toCell : RV → Mo RV
  | .own c => fun s => some (.ok (.val (.ref s.G.length)), { s with G := s.G ++ [c] })
  | _ => stk
def mCell (m : Mo RV) : Mo RV := bnd m toCell
theorem ref_cell {t : TE} {m : Mo RV} (h : RefE K mg ea Wx t m) : RefE K mg ea Wx t (mCell m) := by
  intro σ H io Fr s S0 r0 s' e Q hok hex
  rcases bnd_some e with ⟨x, e1, rfl⟩ | ⟨x, s1, e1, e2⟩
  · exact h σ H io Fr s S0 _ _ e1 _ (fun _ q => by cases q) fun x' q cls d H' io' px => by
      cases q
      exact hex _ rfl cls d H' io' px
  · refine h σ H io Fr s S0 _ _ e1 _ (fun x' q v H1 io1 px => ?_) (fun _ q => by cases q)
    cases q
    cases x with
    | val w => cases e2
    | hnd i => cases e2
    | own c =>
      cases e2
      obtain ⟨a, o, rfl, ha, nf, S1, T1, R1⟩ := px
      obtain ⟨S2, T2⟩ := S1.cell ha nf R1
      refine hok _ rfl _ H1 _ ⟨S2, T1.trans (T2.frless fun b z => .inl z), .ref ?_⟩
      rw [← S1.g.len]
      simp
end
section
variable {X : Cx} {ea : EA} {Wx : WX} {e : Expr} {m : Mo RV} {x : Str} {pos : Pos}
theorem pee_cell (h : Pee X ea Wx e m) : Pee X ea Wx e (mCell m) := let ⟨_, p, r⟩ := h.ex; ⟨_, p, ref_cell r⟩
theorem pee_gint {i : Int} (hm : ∃ t, X.mg x = some (.int i t)) (hg : Gl X x := by rfl) (hd : (x == ("__debug__" : Str)) = false := by decide) : Pee X ea Wx (.Name x pos) (mC (.int i)) :=
  let ⟨_, h⟩ := hm; ⟨_, pe_glob (v := .int i) hg h ⟨_, rfl⟩ hd, ref_c fun _ _ _ => .int i⟩
end
end Z
set_option Elab.async false
set_option linter.all false
set_option maxRecDepth 100000
namespace Z
open PySem PySem.Spec PyProof.Rows L2
theorem hu64 {n : Nat} (h : n + 150 < cLine) : n + 64 < cLine := by omega
theorem hu65 {n : Nat} (h : n + 150 < cLine) : n + 65 < cLine := by omega
theorem hu1 {n : Nat} (h : n + 150 < cLine) : n + 1 < cLine := by omega
theorem tk0 {X : Cx} : Takes X W0 := fun u s' x => by
  obtain ⟨a, B, sI, pins, σ, H, cls, d, _, _, _, _, _, _, _, _, w⟩ := x
  exact w.elim
theorem FnM.mono {P : Program} {w : World} {K : PySem.W.Frag} {mg : Str → Option Value} {base : Heap} {j k : Nat} {f : Addr} {fd : FuncData} {ps : List Str} {m : Fn} (F : FnM P w K mg base j f fd ps m) (h : j ≤ k) : FnM P w K mg base k f fd ps m := ⟨F.ok.mono h⟩
section
variable {K : PySem.W.Frag} {mg : Str → Option Value} {C : Addr}
theorem ClsN.nil {f : Str} : ClsN K mg [] f := fun nm h => by cases h
theorem ClsN.cons {f nm : Str} {nms : List Str} (hm : mg nm = some (.ref C)) (c : Cls K C) (n : NoAttr K C f) (r : ClsN K mg nms f) : ClsN K mg (nm :: nms) f := fun x h => by
  rcases List.mem_cons.mp h with rfl | q
  · exact ⟨C, hm, c, n⟩
  · exact r x q
def HdTab (K : PySem.W.Frag) (mg : Str → Option Value) (c : Value) (tbl : List (Str × Bool)) : Prop := ∀ nm b, tbl.lookup nm = some b → ∀ C, mg nm = some (.ref C) → PySem.W.exmOne K (.ref C) c = some b
theorem HdTab.nil {c : Value} : HdTab K mg c [] := fun nm b h => by cases h
theorem HdTab.cons {c : Value} {tbl : List (Str × Bool)} {nm : Str} {b : Bool} (hm : mg nm = some (.ref C)) (h : PySem.W.exmOne K (.ref C) c = some b) (r : HdTab K mg c tbl) : HdTab K mg c ((nm, b) :: tbl) := fun x b' e D hD => by
  rw [List.lookup_cons] at e
  by_cases q : (x == nm) = true
  · have hx : x = nm := eq_of_beq q
    rw [q] at e
    cases e
    subst hx
    rw [hm] at hD
    cases hD
    exact h
  · have q' : (x == nm) = false := by simpa using q
    rw [q'] at e
    exact r x b' e D hD
end
section
variable {P : Program} {w : World} {K : PySem.W.Frag} {mg : Str → Option Value} {base : Heap} {x qual : Str} {st : Stmt} {f : Addr} {fd : FuncData} {N ps : List Str} {k n : Nat} {body : Mo Fl}
theorem defM2 (F : Fun K x qual st f fd) (S : FnScope N ps (defScope st)) (hn : N.length = n)
    (hb : ∀ (cdv : Value) (A : Around) (outer : List Env) (s : Shared) (H : Hp) (E : XK), Room k (A.deeper (envOfC qual (defScope st) s.heap.objs.size f cdv)) → (A.deeper (envOfC qual (defScope st) s.heap.objs.size f cdv)).units + 150 < cLine →
      Takes (cxOf (L2.CX P w) P w K mg base N qual (defScope st) f cdv A outer s H E) (fun cls d _ H => E cls d H) →
      PassesOwn (model P w) (A.deeper (envOfC qual (defScope st) s.heap.objs.size f cdv)) (envOfC qual (defScope st) s.heap.objs.size f cdv) (cxOf (L2.CX P w) P w K mg base N qual (defScope st) f cdv A outer s H E).xe →
      Pess (cxOf (L2.CX P w) P w K mg base N qual (defScope st) f cdv A outer s H E) ea0 (fun cls d _ H => E cls d H) (defBody st) body) : FnM P w K mg base (k + 1) f fd ps (fnM n body) :=
  defM F S hn fun cdv A outer s H E hr => hb cdv A outer s H E hr (by have := hr.un; omega) (takes_of rfl rfl rfl rfl) (passes_of rfl)
theorem defW2 (F : Fun K x qual st f fd) (S : FnScope N ps (defScope st)) (hn : N.length = n)
    (hb : ∀ (cdv : Value) (A : Around) (outer : List Env) (s : Shared) (H : Hp) (E : XK), L2H.RoomH k (A.deeper (envOfC qual (defScope st) s.heap.objs.size f cdv)) → (A.deeper (envOfC qual (defScope st) s.heap.objs.size f cdv)).units + 150 < cLine →
      Takes { cxOf (L2.CX P w) P w K mg base N qual (defScope st) f cdv A outer s H E with calm := false } (fun cls d _ H => E cls d H) →
      PassesOwn (model P w) (A.deeper (envOfC qual (defScope st) s.heap.objs.size f cdv)) (envOfC qual (defScope st) s.heap.objs.size f cdv) (cxOf (L2.CX P w) P w K mg base N qual (defScope st) f cdv A outer s H E).xe →
      Pess { cxOf (L2.CX P w) P w K mg base N qual (defScope st) f cdv A outer s H E with calm := false } ea0 (fun cls d _ H => E cls d H) (defBody st) body) : FnW P w K mg base (k + 1) f fd ps (fnM n body) :=
  defW F S hn fun cdv A outer s H E hr => hb cdv A outer s H E hr (by have := hr.un; omega) (takes_of rfl rfl rfl rfl) (passes_of rfl)
end
section
variable {X : Cx} {ea : EA} {Wx : WX} {e o : Expr} {es : List Expr} {mo : Mo RV} {ms : Mo (List RV)} {m : Fn} {k n : Nat} {f C : Addr} {fd : FuncData} {ps : List Str} {x nm mn : Str} {p pos apos : Pos} {ds : List Value} {dw : List W} {dvs : List V}
theorem pee_callN (hp : ps.length = n) (F : FnM X.prog X.w X.K X.mg X.base k f fd ps m) (hr : Room k X.A) (hm : X.mg x = some (.ref f)) (hk : PySem.W.keepIn X.K (.ref f) = true) (hb : Binds X.K fd ps []) (tk : Takes X Wx) (ha : Pea X ea Wx (e :: es) ms)
    (hg : Gl X x := by rfl) (hdb : (x == ("__debug__" : Str)) = false := by decide) (he : starEach (e :: es) X.env = (false, eval e X.env) :: starEach es X.env := by rfl) (hpl : (backTo pos (starEach es X.env)).any (·.1) = false := by rfl) :
    Pee X ea Wx (.Call (.Name x p) (e :: es) [] pos) (mCall n m ms) := by subst hp; exact pee_call F hr hm hk hb tk ha hg hdb he hpl
theorem pee_makeN (hp : ps.length = n) (hC : X.mg x = some (.ref C)) (M : Mk X.K C f) (F : FnM X.prog X.w X.K X.mg X.base k f fd ps m) (hr : Room (k + 1) X.A) (hb : Binds X.K fd ps ds) (hd : Vals dvs ds) (hw : Dfl X.K X.mg dw dvs) (tk : Takes X Wx) (ha : Pea X ea Wx (e :: es) ms) (hg : Gl X x := by rfl)
    (hdb : (x == ("__debug__" : Str)) = false := by decide) (he : starEach (e :: es) X.env = (false, eval e X.env) :: starEach es X.env := by rfl) (hpl : (backTo pos (starEach es X.env)).any (·.1) = false := by rfl) :
    Pee X ea Wx (.Call (.Name x p) (e :: es) [] pos) (mMake x n m dw ms) := by subst hp; exact pee_make hC M F hr hb hd hw tk ha hg hdb he hpl
end
end Z
set_option Elab.async false
set_option linter.all false
set_option maxRecDepth 100000
namespace Z
open PySem PySem.Spec PyProof.Rows L2
def spLaw (K : PySem.W.Frag) : Sp := fun vs H Q _ => ∃ (a : Addr) (ns : List Int), vs = [.ref a] ∧ SqL K H a (ns.map V.int) ∧ ns.length ≤ 63 ∧ (∀ z ∈ ns, Builtin.Int.intBits z ≤ 1048576) ∧ ∀ H', Q (.bl true) H'
def Says (m : Fn) : Prop := ∀ ns : List Int, ns.length ≤ 63 → (∀ z ∈ ns, Builtin.Int.intBits z ≤ 1048576) → ∃ G', m [.frl (ns.map W.int)] [] = some (.ok (.val (.bl true)), G')
theorem law_end {P : Program} {w : World} {K : PySem.W.Frag} {mg : Str → Option Value} {base : Heap} {k : Nat} {f : Addr} {fd : FuncData} {m : Fn} {x : Str} (F : FnM P w K mg base k f fd [x] m) (h : Says m) : FnOk P w K mg base (L2.CX P w) k f fd [x] (spLaw K) := by
  refine F.ok.imp fun vs H Q E hh => ?_
  obtain ⟨a, ns, rfl, hS, hl, hb, hq⟩ := hh
  obtain ⟨G', e⟩ := h ns hl hb
  refine ⟨rfl, [], fun _ => False, [], _, _, G', ?_, Rws.one ?_, e, fun f hf v H' io' p => ?_, fun x hx => by cases hx⟩
  · exact ⟨rfl, fun n a c h1 => by simp at h1, List.nodup_nil, fun a ha => by simp at ha, fun a z => z.elim⟩
  · refine .frl (vs := ns.map V.int) ?_ (by simp) fun i w v h1 h2 => ?_
    · rcases hS with hS | hS
      · exact .inl ⟨hS, fun z => by rcases z with z | z; · simp at z
                                    · exact z⟩
      · exact .inr hS
    · rw [List.getElem?_map] at h1 h2
      cases e1 : ns[i]? with
      | none => rw [e1] at h1; cases h1
      | some z => rw [e1] at h1 h2; cases h1; cases h2; exact .int z
  · cases hf
    obtain ⟨_, _, r⟩ := p
    cases r
    exact hq H'
end Z
set_option Elab.async false
set_option linter.all false
set_option maxRecDepth 100000
namespace Z
open PySem PySem.Spec PyProof.Rows L2
section
variable {α β : Type} {r : List SV} {G : List Cell} {m ma mb mc mo mv mi me : Mo RV} {ms : Mo (List RV)} {i n : Nat} {w : W} {s : S}
@[simp] theorem bnd_e {m : Mo α} {f : α → Mo β} : bnd m f ⟨r, G⟩ = match m ⟨r, G⟩ with
  | none => none
  | some (.error x, s') => some (.error x, s')
  | some (.ok a, s') => f a s' := rfl
@[simp] theorem ret_e {a : α} : ret a ⟨r, G⟩ = some (.ok a, ⟨r, G⟩) := rfl
@[simp] theorem stk_e : (stk : Mo α) ⟨r, G⟩ = none := rfl
@[simp] theorem raiseM_e {x : Ex} : (raiseM x : Mo α) ⟨r, G⟩ = some (.error x, ⟨r, G⟩) := rfl
@[simp] theorem mName_e : mName i ⟨r, G⟩ = match r[i]? with
  | some (.val w) => some (.ok (.val w), ⟨r, G⟩)
  | some (.own _) => some (.ok (.hnd i), ⟨r, G⟩)
  | _ => none := rfl
@[simp] theorem mC_e : mC w ⟨r, G⟩ = some (.ok (.val w), ⟨r, G⟩) := rfl
@[simp] theorem settle_val : settle (.val w) = .val w := rfl
@[simp] theorem settle_hnd : settle (.hnd i) = .hnd i := rfl
@[simp] theorem settle_own {c : Cell} : settle (.own c) = .val c.toW := rfl
@[simp] theorem look_int {k : Int} : look (.val (.int k)) ⟨r, G⟩ = some (.ok (.int k), ⟨r, G⟩) := rfl
@[simp] theorem look_bl {k : Bool} : look (.val (.bl k)) ⟨r, G⟩ = some (.ok (.bl k), ⟨r, G⟩) := rfl
@[simp] theorem look_non : look (.val .non) ⟨r, G⟩ = some (.ok .non, ⟨r, G⟩) := rfl
@[simp] theorem look_str {k : Str} : look (.val (.str k)) ⟨r, G⟩ = some (.ok (.str k), ⟨r, G⟩) := rfl
@[simp] theorem look_byt {k : Array UInt8} : look (.val (.byt k)) ⟨r, G⟩ = some (.ok (.byt k), ⟨r, G⟩) := rfl
@[simp] theorem look_tup {k : List W} : look (.val (.tup k)) ⟨r, G⟩ = some (.ok (.tup k), ⟨r, G⟩) := rfl
@[simp] theorem look_lst {k : List W} : look (.val (.lst k)) ⟨r, G⟩ = some (.ok (.lst k), ⟨r, G⟩) := rfl
@[simp] theorem look_frl {k : List W} : look (.val (.frl k)) ⟨r, G⟩ = some (.ok (.frl k), ⟨r, G⟩) := rfl
@[simp] theorem look_dK {k : List (Key × W)} : look (.val (.dK k)) ⟨r, G⟩ = some (.ok (.dK k), ⟨r, G⟩) := rfl
@[simp] theorem look_dT {k : List (List Key × W)} : look (.val (.dT k)) ⟨r, G⟩ = some (.ok (.dT k), ⟨r, G⟩) := rfl
@[simp] theorem look_obj {nm : Str} {k : List (Str × W)} : look (.val (.obj nm k)) ⟨r, G⟩ = some (.ok (.obj nm k), ⟨r, G⟩) := rfl
@[simp] theorem look_ref {k : Nat} : look (.val (.ref k)) ⟨r, G⟩ = (G[k]?).map fun c => (.ok c.toW, ⟨r, G⟩) := by
  show ((G[k]?).map Cell.toW).map _ = _
  rw [Option.map_map]; rfl
@[simp] theorem look_hnd : look (.hnd i) ⟨r, G⟩ = match r[i]? with
    | some (.own c) => some (.ok c.toW, ⟨r, G⟩)
    | some (.val w) => (derefW ⟨r, G⟩ w).map fun z => (.ok z, ⟨r, G⟩)
    | _ => none := rfl
@[simp] theorem deref_int {k : Int} : derefW s (.int k) = some (.int k) := rfl
@[simp] theorem deref_tup {k : List W} : derefW s (.tup k) = some (.tup k) := rfl
@[simp] theorem deref_lst {k : List W} : derefW s (.lst k) = some (.lst k) := rfl
@[simp] theorem deref_frl {k : List W} : derefW s (.frl k) = some (.frl k) := rfl
@[simp] theorem deref_dK {k : List (Key × W)} : derefW s (.dK k) = some (.dK k) := rfl
@[simp] theorem deref_dT {k : List (List Key × W)} : derefW s (.dT k) = some (.dT k) := rfl
@[simp] theorem deref_obj {nm : Str} {k : List (Str × W)} : derefW s (.obj nm k) = some (.obj nm k) := rfl
@[simp] theorem deref_ref {k : Nat} : derefW ⟨r, G⟩ (.ref k) = (G[k]?).map Cell.toW := rfl
@[simp] theorem freeze_val : freeze (.val w) ⟨r, G⟩ = some (.ok w, ⟨r, G⟩) := rfl
@[simp] theorem freeze_hnd : freeze (.hnd i) ⟨r, G⟩ = match r[i]? with
    | some (.own c) => some (.ok c.toW, ⟨r.set i (.val c.toW), G⟩)
    | some (.val w) => some (.ok w, ⟨r, G⟩)
    | _ => none := rfl
@[simp] theorem liftO_e {z : OR} : liftO (some z) ⟨r, G⟩ = some (.ok z.toRV, ⟨r, G⟩) := rfl
@[simp] theorem liftO_n : liftO none ⟨r, G⟩ = none := rfl
@[simp] theorem opM_e {f : W → W → Option OR} {x y : RV} : opM f x y ⟨r, G⟩ = bnd (look x) (fun wx => bnd (look y) fun wy => liftO (f wx wy)) ⟨r, G⟩ := rfl
@[simp] theorem mBin_e {f : W → W → Option OR} : mBin f ma mb ⟨r, G⟩ = bnd ma (fun x => bnd mb fun y => opM f (settle x) (settle y)) ⟨r, G⟩ := rfl
@[simp] theorem mUn_e {f : W → Option OR} : mUn f ma ⟨r, G⟩ = bnd ma (fun x => bnd (look (settle x)) fun wx => liftO (f wx)) ⟨r, G⟩ := rfl
@[simp] theorem toB_e {b : Bool} : toB (.val (.bl b)) ⟨r, G⟩ = some (.ok b, ⟨r, G⟩) := rfl
@[simp] theorem mB_e : mB m ⟨r, G⟩ = bnd m toB ⟨r, G⟩ := rfl
@[simp] theorem mAnd_e {a b : Mo Bool} : mAnd a b ⟨r, G⟩ = bnd a (fun x => if x = true then b else ret false) ⟨r, G⟩ := rfl
@[simp] theorem mOr_e {a b : Mo Bool} : mOr a b ⟨r, G⟩ = bnd a (fun x => if x = true then ret true else b) ⟨r, G⟩ := rfl
@[simp] theorem mNot_e {a : Mo Bool} : mNot a ⟨r, G⟩ = bnd a (fun x => ret (!x)) ⟨r, G⟩ := rfl
@[simp] theorem mIf_e {c : Mo Bool} {a b : Mo Fl} : mIf c a b ⟨r, G⟩ = bnd c (fun x => if x = true then a else b) ⟨r, G⟩ := rfl
@[simp] theorem mIfE_e {c : Mo Bool} {a b : Mo RV} : mIfE c a b ⟨r, G⟩ = bnd c (fun x => if x = true then a else b) ⟨r, G⟩ := rfl
@[simp] theorem mAndV_e : mAndV ma mb ⟨r, G⟩ = bnd (mB ma) (fun x => if x = true then mb else ret (.val (.bl false))) ⟨r, G⟩ := rfl
@[simp] theorem mNotV_e : mNotV ma ⟨r, G⟩ = bnd (mB ma) (fun x => ret (.val (.bl (!x)))) ⟨r, G⟩ := rfl
@[simp] theorem mSeq_e {a b : Mo Fl} : mSeq a b ⟨r, G⟩ = match a ⟨r, G⟩ with
  | none => none
  | some (.error x, s') => some (.error x, s')
  | some (.ok .nx, s') => b s'
  | some (.ok .bk, s') => some (.ok .bk, s')
  | some (.ok .ct, s') => some (.ok .ct, s')
  | some (.ok (.rt f), s') => some (.ok (.rt f), s') := by
  unfold mSeq bnd
  cases a ⟨r, G⟩ with
  | none => rfl
  | some p =>
    obtain ⟨q, s'⟩ := p
    cases q with
    | error x => rfl
    | ok f => cases f <;> rfl
@[simp] theorem mNext_e : mNext ⟨r, G⟩ = some (.ok .nx, ⟨r, G⟩) := rfl
@[simp] theorem land_val : land (.val w) ⟨r, G⟩ = some (.ok (.val w), ⟨r, G⟩) := rfl
@[simp] theorem land_own {c : Cell} : land (.own c) ⟨r, G⟩ = some (.ok (.own c), ⟨r, G⟩) := rfl
@[simp] theorem land_hnd : land (.hnd i) ⟨r, G⟩ = bnd (freeze (.hnd i)) (fun w => ret (.val w)) ⟨r, G⟩ := rfl
@[simp] theorem setM_e {x : SV} : setM i x ⟨r, G⟩ = some (.ok .nx, ⟨r.set i x, G⟩) := rfl
@[simp] theorem mAsg_e : mAsg i m ⟨r, G⟩ = bnd m (fun x => bnd (land x) fun y => setM i y) ⟨r, G⟩ := rfl
@[simp] theorem mDrop_e : mDrop m ⟨r, G⟩ = bnd m (fun _ => ret .nx) ⟨r, G⟩ := rfl
@[simp] theorem retM_val : retM (.val w) ⟨r, G⟩ = some (.ok (.rt (.val w)), ⟨r, G⟩) := rfl
@[simp] theorem retM_own {c : Cell} : retM (.own c) ⟨r, G⟩ = some (.ok (.rt (.own c)), ⟨r, G⟩) := rfl
@[simp] theorem retM_hnd : retM (.hnd i) ⟨r, G⟩ = match r[i]? with
    | some (.own c) => some (.ok (.rt (.own c)), ⟨r, G⟩)
    | some (.val w) => some (.ok (.rt (.val w)), ⟨r, G⟩)
    | _ => none := rfl
@[simp] theorem mRet_e : mRet m ⟨r, G⟩ = bnd m retM ⟨r, G⟩ := rfl
@[simp] theorem mNil_e : mNil ⟨r, G⟩ = some (.ok [], ⟨r, G⟩) := rfl
@[simp] theorem mCons_e : mCons m ms ⟨r, G⟩ = bnd m (fun x => bnd ms fun xs => ret (settle x :: xs)) ⟨r, G⟩ := rfl
@[simp] theorem freezeAll_nil : freezeAll [] ⟨r, G⟩ = some (.ok [], ⟨r, G⟩) := rfl
@[simp] theorem freezeAll_cons {x : RV} {xs : List RV} : freezeAll (x :: xs) ⟨r, G⟩ = bnd (freeze x) (fun w => bnd (freezeAll xs) fun ws => ret (w :: ws)) ⟨r, G⟩ := rfl
@[simp] theorem lookAll_nil : lookAll [] ⟨r, G⟩ = some (.ok [], ⟨r, G⟩) := rfl
@[simp] theorem lookAll_cons {x : RV} {xs : List RV} : lookAll (x :: xs) ⟨r, G⟩ = bnd (look x) (fun w => bnd (lookAll xs) fun ws => ret (w :: ws)) ⟨r, G⟩ := rfl
@[simp] theorem mTup_e : mTup ms ⟨r, G⟩ = bnd ms (fun xs => bnd (freezeAll xs) fun ws => if ws.length ≤ sz then ret (.val (.tup ws)) else stk) ⟨r, G⟩ := rfl
@[simp] theorem mLst_e : mLst ms ⟨r, G⟩ = bnd ms (fun xs => bnd (freezeAll xs) fun ws => if ws.length ≤ sz then ret (.own (.lst ws)) else stk) ⟨r, G⟩ := rfl
@[simp] theorem mCB_e {f : List W → Option OR} : mCB f ms ⟨r, G⟩ = bnd ms (fun xs => bnd (lookAll xs) fun ws => liftO (f ws)) ⟨r, G⟩ := rfl
@[simp] theorem mAsgT_e {t : W → Mo Unit} : mAsgT t m ⟨r, G⟩ = bnd m (fun x => bnd (freeze (settle x)) fun w => bnd (t w) fun _ => ret .nx) ⟨r, G⟩ := rfl
@[simp] theorem tgN_e : tgN i w ⟨r, G⟩ = some (.ok (), ⟨r.set i (.val w), G⟩) := rfl
@[simp] theorem tgT_e {u : List W → Mo Unit} {ws : List W} : tgT n u (.tup ws) ⟨r, G⟩ = if ws.length = n then u ws ⟨r, G⟩ else none := by
  show (if ws.length = n then u ws else stk) ⟨r, G⟩ = _
  split <;> rfl
@[simp] theorem tgsNil_e : tgsNil [] ⟨r, G⟩ = some (.ok (), ⟨r, G⟩) := rfl
@[simp] theorem tgsCons_e {t : W → Mo Unit} {u : List W → Mo Unit} {ws : List W} : tgsCons t u (w :: ws) ⟨r, G⟩ = bnd (t w) (fun _ => u ws) ⟨r, G⟩ := rfl
@[simp] theorem mFor_e {mi : Mo Wk} {t : W → Mo Unit} {mb : Mo Fl} : mFor mi t mb ⟨r, G⟩ = bnd mi (fun k => forL k k.ws fun w => bnd (t w) fun _ => mb) ⟨r, G⟩ := rfl
@[simp] theorem mIter_e : mIter m ⟨r, G⟩ = bnd m (fun x => bnd (freeze (settle x)) fun w s => (walkOf s w).map fun k => (.ok k, s)) ⟨r, G⟩ := rfl
@[simp] theorem walk_lst {ws : List W} : walkOf s (.lst ws) = some ⟨ws, none⟩ := rfl
@[simp] theorem walk_frl {ws : List W} : walkOf s (.frl ws) = some ⟨ws, none⟩ := rfl
@[simp] theorem walk_tup {ws : List W} : walkOf s (.tup ws) = some ⟨ws, none⟩ := rfl
@[simp] theorem walk_ref : walkOf ⟨r, G⟩ (.ref n) = match G[n]? with
    | some (.lst ws) => some ⟨ws, some n⟩
    | _ => none := rfl
theorem lk_nat {n : Nat} (h : n ≤ 1000000) : Lk (n : Int) := by unfold Lk; omega
@[simp] theorem rk_small {j : Int} (h : -1000000 ≤ j ∧ j ≤ 1000000) : Rk j := by unfold Rk; omega
theorem rk_nat {n : Nat} (h : n ≤ 1000000) : Rk (n : Int) := by unfold Rk; omega
@[simp] theorem mRng1_e : mRng1 ms ⟨r, G⟩ = bnd ms (fun xs => bnd (lookAll xs) fun ws => match ws with
  | [.int j] => if Rk j then ret ⟨rngW 0 j.toNat, none⟩ else stk
  | _ => stk) ⟨r, G⟩ := rfl
@[simp] theorem mRng2_e : mRng2 ms ⟨r, G⟩ = bnd ms (fun xs => bnd (lookAll xs) fun ws => match ws with
  | [.int i, .int j] => if Rk i ∧ Rk j then ret ⟨rngW i (j - i).toNat, none⟩ else stk
  | _ => stk) ⟨r, G⟩ := rfl
@[simp] theorem mLc_e {vs : List Nat} {mi : Mo Wk} {t : W → Mo Unit} {tt : Mo Bool} : mLc vs mi t tt me ⟨r, G⟩ = bnd mi (fun k s => lcL vs t tt me k k.ws [] (wipeS vs s)) ⟨r, G⟩ := rfl
@[simp] theorem mYes_e : mYes ⟨r, G⟩ = some (.ok true, ⟨r, G⟩) := rfl
@[simp] theorem wipeS_e {vs : List Nat} : wipeS vs ⟨r, G⟩ = ⟨wipeR r vs, G⟩ := rfl
@[simp] theorem wipeR_nil : wipeR r [] = r := rfl
@[simp] theorem wipeR_cons {vs : List Nat} : wipeR r (n :: vs) = (wipeR r vs).set n .non := rfl
@[simp] theorem mChain_e {f g : W → W → Option OR} : mChain f g ma mb mc ⟨r, G⟩ = bnd ma (fun x => bnd mb fun y => bnd (mB (opM f (settle x) (settle y))) fun k => if k = true then bnd mc fun z => opM g (settle y) (settle z) else ret (.val (.bl false))) ⟨r, G⟩ := rfl
@[simp] theorem mSl_e {ml mh : Mo (Option Int)} : mSl mo ml mh ⟨r, G⟩ = bnd mo (fun x => bnd ml fun l => bnd mh fun h => bnd (look (settle x)) fun wx => liftO (fSl wx l h)) ⟨r, G⟩ := rfl
@[simp] theorem mNoPart_e : mNoPart ⟨r, G⟩ = some (.ok none, ⟨r, G⟩) := rfl
@[simp] theorem toI_e {k : Int} : toI (.val (.int k)) ⟨r, G⟩ = some (.ok (some k), ⟨r, G⟩) := rfl
@[simp] theorem mPart_e : mPart m ⟨r, G⟩ = bnd m toI ⟨r, G⟩ := rfl
@[simp] theorem mAug_e {f : W → W → Option OR} : mAug i f me ⟨r, G⟩ = mAsg i (bnd (mName i) fun x => bnd me fun y => opM f x (settle y)) ⟨r, G⟩ := rfl
@[simp] theorem mMut_e {k : CK} {f : Cell → List W → Option (W × Cell)} : mMut k f mo ms ⟨r, G⟩ = bnd mo (fun x s => if ((cellAt s (settle x)).map k.fits) = some true then (bnd ms fun xs => bnd (freezeAll xs) fun ws s2 => match cellAt s2 (settle x) with
  | some c => (match f c ws with
    | some (w, c') => some (.ok (.val w), putAt s2 c' (settle x))
    | none => none)
  | none => none) s else none) ⟨r, G⟩ := rfl
@[simp] theorem cellAt_hnd : cellAt ⟨r, G⟩ (.hnd i) = match r[i]? with
    | some (.own c) => some c
    | some (.val (.ref n)) => G[n]?
    | _ => none := rfl
@[simp] theorem cellAt_ref : cellAt ⟨r, G⟩ (.val (.ref n)) = G[n]? := rfl
@[simp] theorem putAt_hnd {c : Cell} : putAt ⟨r, G⟩ c (.hnd i) = match r[i]? with
    | some (.own _) => ⟨r.set i (.own c), G⟩
    | some (.val (.ref n)) => ⟨r, G.set n c⟩
    | _ => ⟨r, G⟩ := by
  unfold putAt
  rfl
@[simp] theorem putAt_ref {c : Cell} : putAt ⟨r, G⟩ c (.val (.ref n)) = ⟨r, G.set n c⟩ := rfl
@[simp] theorem fits_l {ws : List W} : CK.fits .lst (.lst ws) = true := rfl
@[simp] theorem mCall_e {m : Fn} : mCall n m ms ⟨r, G⟩ = bnd ms (fun xs => bnd (freezeAll xs) fun ws => if ws.length = n then callG m ws else stk) ⟨r, G⟩ := rfl
@[simp] theorem callG_e {m : Fn} {ws : List W} : callG m ws ⟨r, G⟩ = match m ws G with
  | some (.ok f, G') => some (.ok (rvOf f), ⟨r, G'⟩)
  | some (.error x, G') => some (.error x, ⟨r, G'⟩)
  | none => none := rfl
@[simp] theorem rvOf_val : rvOf (.val w) = .val w := rfl
@[simp] theorem rvOf_own {c : Cell} : rvOf (.own c) = .own c := rfl
@[simp] theorem quiet_e : quiet m ⟨r, G⟩ = match m ⟨r, G⟩ with
  | some (.ok x, s') => some (.ok x, s')
  | _ => none := rfl
@[simp] theorem chk_e {nm mn : Str} : chk nm mn w ⟨r, G⟩ = match derefW ⟨r, G⟩ w with
  | some (.obj nm' fs) => if nm' = nm ∧ fs.lookup mn = none then some (.ok (), ⟨r, G⟩) else none
  | _ => none := rfl
@[simp] theorem mMake_e {nm : Str} {m : Fn} {ds : List W} : mMake nm n m ds ms ⟨r, G⟩ = bnd ms (fun xs => bnd (freezeAll xs) fun ws => if (ws ++ ds).length + 1 = n then makeG nm m (ws ++ ds) else stk) ⟨r, G⟩ := rfl
@[simp] theorem mSetF_e {nms : List Str} {f : Str} : mSetF nms f mo mv ⟨r, G⟩ = bnd mv (fun y => bnd (freeze (settle y)) fun wy => bnd mo fun x => putFld nms f wy x) ⟨r, G⟩ := rfl
@[simp] theorem putFld_e {nms : List Str} {f : Str} : putFld nms f w (.val (.ref n)) ⟨r, G⟩ = match G[n]? with
    | some (.ins nm fs) => if nm ∈ nms ∧ fs.length < 1000 then some (.ok .nx, ⟨r, G.set n (.ins nm (putFW f w fs))⟩) else none
    | _ => none := rfl
@[simp] theorem mRaise_e {nm : Str} {fs : List Str} : mRaise nm fs ms ⟨r, G⟩ = bnd ms (fun xs => bnd (freezeAll xs) fun ws => if ws.length = fs.length ∧ ws.length ≤ 1000 then raiseM ⟨nm, (fs.zip ws).reverse⟩ else stk) ⟨r, G⟩ := rfl
@[simp] theorem mRaise0_e {nm : Str} : mRaise0 nm ⟨r, G⟩ = some (.error ⟨nm, []⟩, ⟨r, G⟩) := rfl
@[simp] theorem mIs_e {tab : List (CT × Bool)} : mIs tab m ⟨r, G⟩ = bnd m (fun x => bnd (look (settle x)) fun w => liftO ((tyOfW w).bind fun c => (tabAt tab c).map fun b => .imm (.bl b))) ⟨r, G⟩ := rfl
@[simp] theorem mXf_e {nms : List Str} {f : Str} : mXf nms i f ⟨r, G⟩ = match r[i]? with
  | some (.exc x) => if x.nm ∈ nms then (match x.fs.lookup f with
    | some w => some (.ok (.val w), ⟨r, G⟩)
    | none => none) else none
  | _ => none := rfl
@[simp] theorem mIsX_e {tab : List (CT × Bool)} : mIsX tab i ⟨r, G⟩ = match r[i]? with
  | some (.exc x) => (match tabAt tab (.own x.nm) with
    | some b => some (.ok (.val (.bl b)), ⟨r, G⟩)
    | none => none)
  | _ => none := rfl
@[simp] theorem chk1_e {nm : Str} {x : W} {xs : List W} : chk1 nm (x :: xs) ⟨r, G⟩ = match derefW ⟨r, G⟩ x with
    | some (.obj nm' _) => if nm' = nm then some (.ok (), ⟨r, G⟩) else none
    | _ => none := rfl
@[simp] theorem mLenO_e {nm : Str} {m : Fn} : mLenO nm m ms ⟨r, G⟩ = bnd ms (fun xs => bnd (freezeAll xs) fun ws => if ws.length = 1 then bnd (chk1 nm ws) fun _ => bnd (callG m ws) toLen else stk) ⟨r, G⟩ := rfl
@[simp] theorem toLen_e {k : Int} : toLen (.val (.int k)) ⟨r, G⟩ = if Lk k then some (.ok (.val (.int k)), ⟨r, G⟩) else none := by
  show (if Lk k then ret (.val (.int k)) else stk : Mo RV) ⟨r, G⟩ = _
  split <;> rfl
@[simp] theorem mCell_e : mCell m ⟨r, G⟩ = bnd m toCell ⟨r, G⟩ := rfl
@[simp] theorem toCell_e {c : Cell} : toCell (.own c) ⟨r, G⟩ = some (.ok (.val (.ref G.length)), ⟨r, G ++ [c]⟩) := rfl
@[simp] theorem mTry_e {m : Mo Fl} {hs : List Hd} : mTry m hs ⟨r, G⟩ = match m ⟨r, G⟩ with
  | none => none
  | some (.ok f, s') => some (.ok f, s')
  | some (.error x, s') => handleM hs x s' := rfl
@[simp] theorem handle_nil {x : Ex} : handleM [] x ⟨r, G⟩ = some (.error x, ⟨r, G⟩) := rfl
@[simp] theorem handle_cons {x : Ex} {h : Hd} {hs : List Hd} : handleM (h :: hs) x ⟨r, G⟩ = match h.tbl.lookup x.nm with
    | none => none
    | some true => runSuite h x ⟨r, G⟩
    | some false => handleM hs x ⟨r, G⟩ := rfl
@[simp] theorem runSuite_e {x : Ex} {h : Hd} : runSuite h x ⟨r, G⟩ = if noExc r = true then match h.slot with
  | none => (match h.suite ⟨r, G⟩ with
    | some (.ok f, s') => if noExc s'.r = true then some (.ok f, s') else none
    | _ => none)
  | some i => (match h.suite ⟨r.set i (.exc x), G⟩ with
    | some (.ok f, s') => if noExc (s'.r.set i .non) = true then some (.ok f, { s' with r := s'.r.set i .non }) else none
    | _ => none)
  else none := rfl
end
section
variable {a b : Int}
@[simp] theorem fAdd_i : fAdd (.int a) (.int b) = some (.imm (.int (a + b))) := rfl
@[simp] theorem fSub_i : fSub (.int a) (.int b) = some (.imm (.int (a - b))) := rfl
@[simp] theorem fMul_i : fMul (.int a) (.int b) = if CMul a b then some (.imm (.int (a * b))) else none := by
  unfold fMul orf fIC fRepL
  split <;> rename_i h <;> split at h <;> simp_all
@[simp] theorem fDiv_i : fDiv (.int a) (.int b) = if CDivW a b then some (.imm (.int (a / b))) else none := rfl
@[simp] theorem fMod_i : fMod (.int a) (.int b) = if 0 < b then some (.imm (.int (a % b))) else none := rfl
@[simp] theorem fPow_i : fPow (.int a) (.int b) = if CPow a b then some (.imm (.int (a ^ b.toNat))) else none := rfl
@[simp] theorem fShl_i : fShl (.int a) (.int b) = if CPow a b then some (.imm (.int (a * 2 ^ b.toNat))) else none := rfl
@[simp] theorem fShr_i : fShr (.int a) (.int b) = if 0 ≤ b then some (.imm (.int (a / 2 ^ b.toNat))) else none := rfl
@[simp] theorem fNeg_i : fNeg (.int a) = some (.imm (.int (-a))) := rfl
@[simp] theorem fLt_i : fLt (.int a) (.int b) = some (.imm (.bl (decide (a < b)))) := rfl
@[simp] theorem fLe_i : fLe (.int a) (.int b) = some (.imm (.bl (decide (a ≤ b)))) := rfl
@[simp] theorem fGt_i : fGt (.int a) (.int b) = some (.imm (.bl (decide (b < a)))) := rfl
@[simp] theorem fInt1_i : fInt1 [.int a] = some (.imm (.int a)) := rfl
@[simp] theorem fLen_l {ws : List W} : fLen [.lst ws] = some (.imm (.int ws.length)) := rfl
@[simp] theorem fLen_f {ws : List W} : fLen [.frl ws] = some (.imm (.int ws.length)) := rfl
@[simp] theorem fLen_t {ws : List W} : fLen [.tup ws] = some (.imm (.int ws.length)) := rfl
@[simp] theorem fIx_l {ws : List W} : fIx (.lst ws) (.int a) = (atI ws a).map .imm := by
  unfold fIx orf fIxS
  cases h : atI ws a <;> simp [h, fIxD, dLook]
@[simp] theorem fIx_f {ws : List W} : fIx (.frl ws) (.int a) = (atI ws a).map .imm := by
  unfold fIx orf fIxS
  cases h : atI ws a <;> simp [h, fIxD, dLook]
@[simp] theorem fIx_t {ws : List W} : fIx (.tup ws) (.int a) = (atI ws a).map .imm := by
  unfold fIx orf fIxS
  cases h : atI ws a <;> simp [h, fIxD, dLook]
theorem atI_mapI {xs : List Int} {k : Nat} (h : k < xs.length) : atI (xs.map W.int) (k : Int) = some (.int (xs[k]'h)) := atI_nat (by simp [h])
end
theorem fnM_e {n : Nat} {body : Mo Fl} {ws : List W} {G : List Cell} : fnM n body ws G = match body ⟨ws.map SV.val ++ List.replicate (n - ws.length) SV.non, G⟩ with
  | some (.ok (.rt f), s) => some (.ok f, s.G)
  | some (.ok .nx, s) => some (.ok (.val .non), s.G)
  | some (.error x, s) => some (.error x, s.G)
  | _ => none := rfl
end Z
set_option Elab.async false
set_option linter.all false
set_option maxRecDepth 100000
namespace Z
open PySem PySem.Spec PyProof.Rows L2
section
variable {ws ws0 : List W} {k : Wk} {b : W → Mo Fl} {s : S} {F : Option (Except Ex Fl × S)}
@[simp] theorem ok_none : Wk.ok ⟨ws, none⟩ s ↔ True := Iff.rfl
@[simp] theorem ok_some {n : Nat} {r : List SV} {G : List Cell} : Wk.ok ⟨ws, some n⟩ ⟨r, G⟩ ↔ G[n]? = some (.lst ws) := Iff.rfl
theorem forL_gen {R : Except Ex Fl → S → Prop} (I : Nat → S → Prop) (hok : ∀ i s, I i s → k.ok s) (hend : ∀ s, I ws.length s → R (.ok .nx) s)
    (h : ∀ (i : Nat) (hi : i < ws.length) (s : S), I i s → (∃ s', (b ws[i] s = some (.ok .nx, s') ∨ b ws[i] s = some (.ok .ct, s')) ∧ I (i + 1) s') ∨ (∃ s', b ws[i] s = some (.ok .bk, s') ∧ R (.ok .nx) s') ∨
      (∃ f s', b ws[i] s = some (.ok (.rt f), s') ∧ R (.ok (.rt f)) s') ∨ ∃ x s', b ws[i] s = some (.error x, s') ∧ R (.error x) s') :
    ∀ (n i : Nat) (s : S), n = ws.length - i → i ≤ ws.length → I i s → ∃ r s', forL k (ws.drop i) b s = some (r, s') ∧ R r s' := by
  intro n
  induction n with
  | zero =>
    intro i s hk hi hI
    have e : i = ws.length := by omega
    subst e
    rw [List.drop_length]
    exact ⟨_, _, if_pos (hok _ _ hI), hend s hI⟩
  | succ n ih =>
    intro i s hk hi hI
    have hlt : i < ws.length := by omega
    rw [drop_get hlt]
    unfold forL
    rw [if_pos (hok _ _ hI)]
    rcases h i hlt s hI with ⟨s', e | e, hI'⟩ | ⟨s', e, hR⟩ | ⟨f, s', e, hR⟩ | ⟨x, s', e, hR⟩
    · rw [bnd_at e]
      exact ih (i + 1) s' (by omega) (by omega) hI'
    · rw [bnd_at e]
      exact ih (i + 1) s' (by omega) (by omega) hI'
    · rw [bnd_at e]
      exact ⟨_, _, rfl, hR⟩
    · rw [bnd_at e]
      exact ⟨_, _, rfl, hR⟩
    · unfold bnd; rw [e]
      exact ⟨_, _, rfl, hR⟩
theorem forL_exitK {R : Except Ex Fl → S → Prop} (hF : forL k ws b s = F) (I : Nat → S → Prop) (hok : ∀ i s, I i s → k.ok s) (h0 : I 0 s) (hend : ∀ s, I ws.length s → R (.ok .nx) s)
    (h : ∀ (i : Nat) (hi : i < ws.length) (s : S), I i s → (∃ s', (b ws[i] s = some (.ok .nx, s') ∨ b ws[i] s = some (.ok .ct, s')) ∧ I (i + 1) s') ∨ (∃ s', b ws[i] s = some (.ok .bk, s') ∧ R (.ok .nx) s') ∨
      (∃ f s', b ws[i] s = some (.ok (.rt f), s') ∧ R (.ok (.rt f)) s') ∨ ∃ x s', b ws[i] s = some (.error x, s') ∧ R (.error x) s') : ∃ r s', F = some (r, s') ∧ R r s' := by
  have := forL_gen (k := k) I hok hend h ws.length 0 s (by simp) (Nat.zero_le _) h0
  rw [List.drop_zero, hF] at this
  exact this
theorem forL_exitAt {R : Except Ex Fl → S → Prop} (hF : forL ⟨ws0, none⟩ ws b s = F) (I : Nat → S → Prop) (h0 : I 0 s) (hend : ∀ s, I ws.length s → R (.ok .nx) s)
    (h : ∀ (i : Nat) (hi : i < ws.length) (s : S), I i s → (∃ s', (b ws[i] s = some (.ok .nx, s') ∨ b ws[i] s = some (.ok .ct, s')) ∧ I (i + 1) s') ∨ (∃ s', b ws[i] s = some (.ok .bk, s') ∧ R (.ok .nx) s') ∨
      (∃ f s', b ws[i] s = some (.ok (.rt f), s') ∧ R (.ok (.rt f)) s') ∨ ∃ x s', b ws[i] s = some (.error x, s') ∧ R (.error x) s') : ∃ r s', F = some (r, s') ∧ R r s' := forL_exitK hF I (fun _ _ _ => trivial) h0 hend h
theorem forL_atK (hF : forL k ws b s = F) (I : Nat → S → Prop) (hok : ∀ i s, I i s → k.ok s) (h0 : I 0 s) (h : ∀ (i : Nat) (hi : i < ws.length) (s : S), I i s → ∃ s', b ws[i] s = some (.ok .nx, s') ∧ I (i + 1) s') : ∃ s', F = some (.ok .nx, s') ∧ I ws.length s' := by
  obtain ⟨r, s', e, hr, hI⟩ := forL_exitK hF (R := fun r s' => r = .ok .nx ∧ I ws.length s') I hok h0 (fun s hI => ⟨rfl, hI⟩) (fun i hi s hI => .inl (let ⟨s', e, h'⟩ := h i hi s hI; ⟨s', .inl e, h'⟩))
  subst hr
  exact ⟨s', e, hI⟩
theorem forL_at (hF : forL ⟨ws0, none⟩ ws b s = F) (I : Nat → S → Prop) (h0 : I 0 s) (h : ∀ (i : Nat) (hi : i < ws.length) (s : S), I i s → ∃ s', b ws[i] s = some (.ok .nx, s') ∧ I (i + 1) s') : ∃ s', F = some (.ok .nx, s') ∧ I ws.length s' := forL_atK hF I (fun _ _ _ => trivial) h0 h
variable {γ : Type} {e : γ → W} {xs : List γ} {vs : List Nat} {t : W → Mo Unit} {tt : Mo Bool} {me : Mo RV}
theorem lc_pure (hk : k.ok s) (p : γ → Bool) (f : γ → W) : ∀ (xs : List γ) (acc : List W), (∀ x ∈ xs, ∃ s1, (bnd (t (e x)) fun _ => tt) s = some (.ok (p x), s1) ∧ (p x = true → ∃ s2, (bnd me fun y => freeze (settle y)) s1 = some (.ok (f x), s2) ∧ wipeS vs s2 = s) ∧ (p x = false → wipeS vs s1 = s)) →
    acc.length + xs.length ≤ sz → lcL vs t tt me k (xs.map e) acc s = some (.ok (.own (.lst (acc ++ (xs.filter p).map f))), s)
  | [], acc, _, _ => by
    simp only [List.map_nil, List.filter_nil, List.append_nil]
    unfold lcL
    exact if_pos hk
  | x :: xs, acc, h, hl => by
    obtain ⟨s1, e1, h1, h2⟩ := h x List.mem_cons_self
    have hr := fun y hy => h y (List.mem_cons_of_mem x hy)
    simp only [List.map_cons]
    unfold lcL
    rw [if_pos hk, e1]
    cases q : p x with
    | true =>
      obtain ⟨s2, e2, e3⟩ := h1 q
      simp only [e2]
      rw [if_pos (by simp at hl; omega), e3, lc_pure hk p f xs _ hr (by simp at hl ⊢; omega)]
      simp [List.filter_cons, q]
    | false =>
      simp only []
      rw [h2 q, lc_pure hk p f xs _ hr (by simp at hl ⊢; omega)]
      simp [List.filter_cons, q]
theorem lc_all (hk : k.ok s) (f : γ → W) (xs : List γ) (acc : List W) (h : ∀ x ∈ xs, ∃ s1, (bnd (t (e x)) fun _ => tt) s = some (.ok true, s1) ∧ ∃ s2, (bnd me fun y => freeze (settle y)) s1 = some (.ok (f x), s2) ∧ wipeS vs s2 = s) (hl : acc.length + xs.length ≤ sz) :
    lcL vs t tt me k (xs.map e) acc s = some (.ok (.own (.lst (acc ++ xs.map f))), s) := by
  have := lc_pure hk (vs := vs) (t := t) (tt := tt) (me := me) (e := e) (s := s) (fun _ => true) f xs acc (fun x hx => by
    obtain ⟨s1, e1, s2, e2, e3⟩ := h x hx
    exact ⟨s1, e1, fun _ => ⟨s2, e2, e3⟩, fun q => by cases q⟩) hl
  rwa [List.filter_eq_self.mpr fun _ _ => rfl] at this
theorem lc_inv (I : Nat → List W → S → Prop) (hok : ∀ i acc s, I i acc s → k.ok s) : ∀ (n i : Nat) (acc : List W) (s : S), n = ws.length - i → i ≤ ws.length → I i acc s → acc.length ≤ i → ws.length ≤ sz →
    (∀ (i : Nat) (hi : i < ws.length) (acc : List W) (s : S), I i acc s → ∃ b s1, (bnd (t ws[i]) fun _ => tt) s = some (.ok b, s1) ∧ (b = true → ∃ y s2, (bnd me fun y => freeze (settle y)) s1 = some (.ok y, s2) ∧ I (i + 1) (acc ++ [y]) (wipeS vs s2)) ∧ (b = false → I (i + 1) acc (wipeS vs s1))) →
    ∃ acc' s', lcL vs t tt me k (ws.drop i) acc s = some (.ok (.own (.lst acc')), s') ∧ I ws.length acc' s' ∧ acc'.length ≤ ws.length := by
  intro n
  induction n with
  | zero =>
    intro i acc s hn hi hI hl hz h
    have e : i = ws.length := by omega
    subst e
    rw [List.drop_length]
    unfold lcL
    exact ⟨acc, s, if_pos (hok _ _ _ hI), hI, hl⟩
  | succ n ih =>
    intro i acc s hn hi hI hl hz h
    have hlt : i < ws.length := by omega
    rw [drop_get hlt]
    unfold lcL
    rw [if_pos (hok _ _ _ hI)]
    obtain ⟨b, s1, e1, h1, h2⟩ := h i hlt acc s hI
    rw [e1]
    cases b with
    | true =>
      obtain ⟨y, s2, e2, h3⟩ := h1 rfl
      simp only [e2]
      rw [if_pos (by omega)]
      exact ih (i + 1) _ _ (by omega) (by omega) h3 (by simp; omega) hz h
    | false => exact ih (i + 1) _ _ (by omega) (by omega) (h2 rfl) (by omega) hz h
theorem lc_at {F : Option (Except Ex RV × S)} (hF : lcL vs t tt me k ws [] s = F) (I : Nat → List W → S → Prop) (hok : ∀ i acc s, I i acc s → k.ok s) (h0 : I 0 [] s) (hz : ws.length ≤ sz)
    (h : ∀ (i : Nat) (hi : i < ws.length) (acc : List W) (s : S), I i acc s → ∃ b s1, (bnd (t ws[i]) fun _ => tt) s = some (.ok b, s1) ∧ (b = true → ∃ y s2, (bnd me fun y => freeze (settle y)) s1 = some (.ok y, s2) ∧ I (i + 1) (acc ++ [y]) (wipeS vs s2)) ∧ (b = false → I (i + 1) acc (wipeS vs s1))) :
    ∃ acc' s', F = some (.ok (.own (.lst acc')), s') ∧ I ws.length acc' s' ∧ acc'.length ≤ ws.length := by
  have := lc_inv (k := k) I hok ws.length 0 [] s (by simp) (Nat.zero_le _) h0 (Nat.zero_le _) hz h
  rw [List.drop_zero, hF] at this
  exact this
theorem rng_map {lo : Int} {n : Nat} : rngW lo n = (List.range n).map fun (k : Nat) => W.int (lo + (k : Int)) := rfl
end
theorem toPDs_map {γ : Type} {e : γ → W} {g : γ → PyData} (h : ∀ x, toPD (e x) = some (g x)) : ∀ xs : List γ, toPDs (xs.map e) = some (xs.map g)
  | [] => rfl
  | x :: xs => by simp only [List.map_cons, toPDs, h x, toPDs_map h xs]
theorem eqvAll_map {γ : Type} [DecidableEq γ] {g : γ → PyData} (h : ∀ x y, PyData.eqv (g x) (g y) = decide (x = y)) : ∀ xs ys : List γ, PyData.eqvAll (xs.map g) (ys.map g) = decide (xs = ys)
  | [], [] => rfl
  | [], _ :: _ => rfl
  | _ :: _, [] => rfl
  | x :: xs, y :: ys => by
    simp only [List.map_cons, PyData.eqvAll, h, eqvAll_map h xs ys]
    by_cases h1 : x = y <;> by_cases h2 : xs = ys <;> simp [h1, h2]
theorem canAll_map {γ : Type} {g : γ → PyData} (h : ∀ x, (g x).canLay0 = true) : ∀ xs : List γ, PyData.canLayAll0 (xs.map g) = true
  | [] => rfl
  | x :: xs => by simp only [List.map_cons, PyData.canLayAll0, h x, canAll_map h xs, Bool.and_true]
structure Emb {γ : Type} [DecidableEq γ] (e : γ → W) (n : Nat) : Prop where
  ex : ∃ g : γ → PyData, (∀ x, toPD (e x) = some (g x)) ∧ (∀ x, (g x).canLay0 = true) ∧ (∀ x, (g x).depth ≤ n) ∧ ∀ x y, PyData.eqv (g x) (g y) = decide (x = y)
theorem depthAll_map {γ : Type} {g : γ → PyData} {n : Nat} (h : ∀ x, (g x).depth ≤ n) : ∀ xs : List γ, PyData.depthAll (xs.map g) ≤ n
  | [] => Nat.zero_le _
  | x :: xs => by simp only [List.map_cons, PyData.depthAll]; exact Nat.max_le.mpr ⟨h x, depthAll_map h xs⟩
section
variable {γ δ : Type} [DecidableEq γ] [DecidableEq δ] {e : γ → W} {e' : δ → W} {n m : Nat}
theorem emb_int : Emb W.int 0 := ⟨PyData.int, fun _ => rfl, fun _ => rfl, fun _ => Nat.le_refl _, fun x y => by
  show (x == y) = _
  by_cases h : x = y <;> simp [h]⟩
theorem emb_lst (h : Emb e n) : Emb (fun xs : List γ => W.lst (xs.map e)) (n + 1) := by
  obtain ⟨g, h1, h2, h3, h4⟩ := h.ex
  refine ⟨fun xs => .list (xs.map g), fun xs => ?_, fun xs => ?_, fun xs => ?_, fun xs ys => ?_⟩
  · simp only [toPD, toPDs_map h1, Option.map_some]
  · simp only [PyData.canLay0]; exact canAll_map h2 xs
  · simp only [PyData.depth]; exact Nat.succ_le_succ (depthAll_map h3 xs)
  · simp only [PyData.eqv]; exact eqvAll_map h4 xs ys
theorem emb_tup (h : Emb e n) : Emb (fun xs : List γ => W.tup (xs.map e)) (n + 1) := by
  obtain ⟨g, h1, h2, h3, h4⟩ := h.ex
  refine ⟨fun xs => .tuple (xs.map g), fun xs => ?_, fun xs => ?_, fun xs => ?_, fun xs ys => ?_⟩
  · simp only [toPD, toPDs_map h1, Option.map_some]
  · simp only [PyData.canLay0]; exact canAll_map h2 xs
  · simp only [PyData.depth]; exact Nat.succ_le_succ (depthAll_map h3 xs)
  · simp only [PyData.eqv]; exact eqvAll_map h4 xs ys
theorem shaped_of {d : PyData} (h1 : d.canLay0 = true) (h2 : d.depth ≤ 64) : SeqAt.shaped d = true := by
  unfold SeqAt.shaped
  rw [h1, decide_eq_true h2]; rfl
theorem eqP_emb (h : Emb e n) (hn : n ≤ 64) (x y : γ) : eqP (e x) (e y) = some (decide (x = y)) := by
  obtain ⟨g, h1, h2, h3, h4⟩ := h.ex
  unfold eqP
  simp only [h1]
  rw [if_pos ⟨shaped_of (h2 x) (Nat.le_trans (h3 x) hn), shaped_of (h2 y) (Nat.le_trans (h3 y) hn)⟩, h4]
theorem anyP_emb (h : Emb e n) (hn : n < 64) (x : γ) (xs : List γ) : anyP (e x) (xs.map e) = some (decide (x ∈ xs)) := by
  obtain ⟨g, h1, h2, h3, h4⟩ := h.ex
  unfold anyP
  rw [h1, toPDs_map h1]
  simp only []
  rw [if_pos ⟨shaped_of (h2 x) (Nat.le_trans (h3 x) (Nat.le_of_lt hn)), shaped_of (by simp only [PyData.canLay0]; exact canAll_map h2 xs) (by simp only [PyData.depth]; exact Nat.succ_le_of_lt (Nat.lt_of_le_of_lt (depthAll_map h3 xs) hn))⟩]
  congr 1
  rw [List.any_map]
  rw [Bool.eq_iff_iff]
  simp only [List.any_eq_true, Function.comp_apply, h4, decide_eq_true_eq]
  constructor
  · rintro ⟨y, hy, rfl⟩; exact hy
  · intro hx; exact ⟨x, hx, rfl⟩
theorem fEqD_emb (h : Emb e n) (hn : n ≤ 64) (x y : γ) : fEqD (e x) (e y) = some (.imm (.bl (decide (x = y)))) := by unfold fEqD; rw [eqP_emb h hn]; rfl
theorem fNeD_emb (h : Emb e n) (hn : n ≤ 64) (x y : γ) : fNeD (e x) (e y) = some (.imm (.bl (decide (x ≠ y)))) := by
  unfold fNeD; rw [eqP_emb h hn]
  by_cases q : x = y <;> simp [q]
theorem fIn_lst (h : Emb e n) (hn : n < 64) (neg : Bool) (x : γ) (xs : List γ) : fIn neg (e x) (.lst (xs.map e)) = some (.imm (.bl (decide (x ∈ xs) != neg))) := by
  show orf _ _ _ _ = _
  unfold orf
  rw [show fInL neg (e x) (.lst (xs.map e)) = some (.imm (.bl (decide (x ∈ xs) != neg))) from by
    show (anyP (e x) (xs.map e)).map _ = _
    rw [anyP_emb h hn]; rfl]
theorem toVs_ints : ∀ xs : List Int, toVs (xs.map W.int) = some (xs.map V.int)
  | [] => rfl
  | x :: xs => by simp only [List.map_cons, toVs, toV, toVs_ints xs]
theorem inV_ints (x : Int) : ∀ xs : List Int, inV (.int x) (xs.map V.int) = decide (x ∈ xs)
  | [] => rfl
  | y :: ys => by
    have := inV_ints x ys
    unfold inV at this ⊢
    simp only [List.map_cons, List.any_cons, this]
    show ((y == x) || _) = _
    by_cases h : y = x
    · subst h; simp
    · have h' : ¬ x = y := fun z => h z.symm
      simp [h, h']
theorem fIn_tupI (neg : Bool) (x : Int) (xs : List Int) : fIn neg (.int x) (.tup (xs.map W.int)) = some (.imm (.bl (decide (x ∈ xs) != neg))) := by
  show orf _ _ _ _ = _
  unfold orf
  rw [show fInL neg (.int x) (.tup (xs.map W.int)) = none from rfl]
  simp only []
  rw [show fInT neg (.int x) (.tup (xs.map W.int)) = some (.imm (.bl (decide (x ∈ xs) != neg))) from by
    unfold fInT; simp only [toV, toVs_ints, inV_ints]]
end
theorem fEqD_i (a b : Int) : fEqD (.int a) (.int b) = some (.imm (.bl (decide (a = b)))) := fEqD_emb emb_int (by decide) a b
theorem fNeD_i (a b : Int) : fNeD (.int a) (.int b) = some (.imm (.bl (decide (a ≠ b)))) := fNeD_emb emb_int (by decide) a b
theorem fIn_lI (neg : Bool) (x : Int) (xs : List Int) : fIn neg (.int x) (.lst (xs.map W.int)) = some (.imm (.bl (decide (x ∈ xs) != neg))) := fIn_lst emb_int (by decide) neg x xs
end Z
set_option Elab.async false
set_option linter.all false
set_option maxRecDepth 100000
namespace Z
open PySem PySem.Spec PyProof.Rows L2
def Nx (I : Nat → S → Prop) (R : Except Ex Fl → S → Prop) (i : Nat) : Except Ex Fl → S → Prop
  | .ok .nx, s => I (i + 1) s
  | .ok .ct, s => I (i + 1) s
  | .ok .bk, s => R (.ok .nx) s
  | r, s => R r s
section
variable {ws ws0 : List W} {k : Wk} {b : W → Mo Fl} {s : S} {F : Option (Except Ex Fl × S)} {I : Nat → S → Prop} {R : Except Ex Fl → S → Prop} {i : Nat}
@[simp] theorem nx_nx : Nx I R i (.ok .nx) s ↔ I (i + 1) s := Iff.rfl
@[simp] theorem nx_ct : Nx I R i (.ok .ct) s ↔ I (i + 1) s := Iff.rfl
@[simp] theorem nx_bk : Nx I R i (.ok .bk) s ↔ R (.ok .nx) s := Iff.rfl
@[simp] theorem nx_rt {f} : Nx I R i (.ok (.rt f)) s ↔ R (.ok (.rt f)) s := Iff.rfl
@[simp] theorem nx_er {x} : Nx I R i (.error x) s ↔ R (.error x) s := Iff.rfl
theorem forL_x (hF : forL k ws b s = F) (I : Nat → S → Prop) (R : Except Ex Fl → S → Prop) (hok : ∀ i s, I i s → k.ok s) (h0 : I 0 s) (hend : ∀ s, I ws.length s → R (.ok .nx) s)
    (h : ∀ (i : Nat) (hi : i < ws.length) (s : S), I i s → ∃ r s', b ws[i] s = some (r, s') ∧ Nx I R i r s') : ∃ r s', F = some (r, s') ∧ R r s' := forL_exitK hF (R := R) I hok h0 hend fun i hi s hI => by
  obtain ⟨r, s', e, hn⟩ := h i hi s hI
  match r, hn with
  | .ok .nx, hn => exact .inl ⟨s', .inl e, hn⟩
  | .ok .ct, hn => exact .inl ⟨s', .inr e, hn⟩
  | .ok .bk, hn => exact .inr (.inl ⟨s', e, hn⟩)
  | .ok (.rt f), hn => exact .inr (.inr (.inl ⟨f, s', e, hn⟩))
  | .error x, hn => exact .inr (.inr (.inr ⟨x, s', e, hn⟩))
end
end Z
set_option Elab.async false
set_option linter.all false
set_option maxRecDepth 100000
namespace Z
open PySem PySem.Spec PyProof.Rows L2
def Rl (a b : Int) : Prop := RgOk a b
noncomputable instance (a b : Int) : Decidable (Rl a b) := Classical.propDecidable _
noncomputable def fLr1 : W → Option OR
  | .int j => if Rl 0 j then some (.newl (rngW 0 j.toNat)) else none
  | _ => none
section
variable {K : PySem.W.Frag} {mg : Str → Option Value} {ea : EA} {io io' : List Addr} {Fr Fr' : Addr → Prop} {s s' s2 : S} {σ σ' : L2.St} {H H' : Hp} {w : W} {v : V} {c : Cell} {o : HO} {a p : Addr} {ws : List W} {vs : List V} {M : Addr → Prop}
variable {Wx : WX}
theorem rws_rng {lo hi : Int} : Rws K mg io M H (rngW lo (hi - lo).toNat) (rgV lo hi) := by
  refine ⟨by simp [rngW, rgV], fun i w v h1 h2 => ?_⟩
  have hi := get_lt h1
  simp only [rngW, List.length_map, List.length_range] at hi
  simp only [rngW, rgV, List.getElem?_map, List.getElem?_range hi, Option.map_some, Option.some.injEq] at h1 h2
  subst h1 h2
  exact .int _
theorem ref_lr1 {ta : TE} {m : Mo RV} (h : RefE K mg ea Wx ta m) : RefE K mg ea Wx (tLstRg (tRg1 ta)) (mUn fLr1 m) := by
  refine ref_un (r := fun x H Q => ∃ n, x = .int n ∧ RgOk 0 n ∧ ∀ q, H q = none → Q (.ref q) (upd H q (.lst (rgV 0 n)))) (fun io M H x vx z Q rx e q => ?_) h
  unfold fLr1 at e
  split at e
  · split at e
    · rename_i hz
      cases e
      have := rx.int
      subst this
      refine ⟨_, rfl, hz, fun p hp => q p _ hp ?_⟩
      have := rws_rng (K := K) (mg := mg) (io := io) (M := M) (H := H) (lo := 0) (hi := ‹Int›)
      simpa using this
    · cases e
  · cases e
theorem stp_upd {D : Addr} {o' : HO} (hD : M D) : Stp io M (fun _ => False) H io M (upd H D o') where
  p := ⟨fun b u e h => by rw [upd_ne (fun z => by subst z; exact h hD)]; exact e, fun b z => .inl z, fun _ _ e => e⟩
  fr := fun b z => z.elim
  trk := fun b u e => by
    by_cases h : b = D
    · exact ⟨o', by rw [h, upd_same]⟩
    · exact ⟨u, by rw [upd_ne h]; exact e⟩
noncomputable def lcB (vs : List Nat) (t : W → Mo Unit) (tt : Mo Bool) (me : Mo RV) (k : Wk) : List W → List W → S → Option (List W × S)
  | [], acc => fun s => if k.ok s then some (acc, s) else none
  | w :: ws, acc => fun s => if k.ok s then (match (bnd (t w) fun _ => tt) s with
    | some (.ok true, s1) => match (bnd me fun x => freeze (settle x)) s1 with
      | some (.ok y, s2) => if acc.length < sz then lcB vs t tt me k ws (acc ++ [y]) (wipeS vs s2) else none
      | _ => none
    | some (.ok false, s1) => lcB vs t tt me k ws acc (wipeS vs s1)
    | _ => none) else none
noncomputable def lcL2 (vs vs1 : List Nat) (t : W → Mo Unit) (tt : Mo Bool) (mi1 : Mo Wk) (t1 : W → Mo Unit) (tt1 : Mo Bool) (me : Mo RV) (k : Wk) : List W → List W → Mo RV
  | [], acc => fun s => if k.ok s then some (.ok (.own (.lst acc)), s) else none
  | w :: ws, acc => fun s => if k.ok s then (match (bnd (t w) fun _ => tt) s with
    | some (.ok true, s1) => match mi1 s1 with
      | some (.ok k1, s2) => match lcB vs1 t1 tt1 me k1 k1.ws acc (wipeS vs1 s2) with
        | some (acc', s3) => lcL2 vs vs1 t tt mi1 t1 tt1 me k ws acc' (wipeS vs s3)
        | none => none
      | _ => none
    | some (.ok false, s1) => lcL2 vs vs1 t tt mi1 t1 tt1 me k ws acc (wipeS vs s1)
    | _ => none) else none
noncomputable def mLc2 (vs vs1 : List Nat) (mi : Mo Wk) (t : W → Mo Unit) (tt : Mo Bool) (mi1 : Mo Wk) (t1 : W → Mo Unit) (tt1 : Mo Bool) (me : Mo RV) : Mo RV := bnd mi fun k => fun s => lcL2 vs vs1 t tt mi1 t1 tt1 me k k.ws [] (wipeS vs s)
theorem ref_lc2 {wi wi1 : TI} {g g1 : TG} {tt tt1 : TT} {te : TE} {mi mi1 : Mo Wk} {t t1 : W → Mo Unit} {mt mt1 : Mo Bool} {me : Mo RV} {l l1 vs vs1 : List Nat} (hi : RefI K mg ea Wx wi mi) (hg : RefG K mg ea g t l) (hl : ∀ i ∈ l, i ∈ vs) (ht : RefT K mg ea W0 tt mt)
    (hi1 : RefI K mg ea W0 wi1 mi1) (hg1 : RefG K mg ea g1 t1 l1) (hl1 : ∀ i ∈ l1, i ∈ vs1) (hv : ∀ i ∈ vs1, i ∈ vs) (ht1 : RefT K mg ea W0 tt1 mt1) (he : RefE K mg ea W0 te me) :
    RefE K mg ea Wx (tLc2 wi g tt wi1 g1 tt1 te vs vs1) (mLc2 vs vs1 mi t mt mi1 t1 mt1 me) := by
  intro σ H io Fr s S0 r0 s' e Q hok hex
  rcases bnd_some e with ⟨x, e1, rfl⟩ | ⟨kw, s1, e1, e2⟩
  · exact hi σ H io Fr s S0 _ _ e1 _ (fun _ q => by cases q) fun x' q cls d H' io' px => by
      cases q
      exact hex _ rfl cls d H' io' px
  · refine hi σ H io Fr s S0 _ _ e1 _ (fun kw' q J H1 io1 px G => ?_) (fun _ q => by cases q)
    cases q
    intro D hD
    obtain ⟨SD, TD, nD⟩ := px.1.alloc (o := .lst []) hD
    have nFD : ¬ Fr D := fun z => nD (.inl z)
    obtain ⟨SW, lW⟩ := SD.wiped (l := vs) (σ' := wipe σ vs) (wipe_length σ vs) fun j hj => (wipe_get (σ := σ)).1 hj
    have TW := TD.less lW
    refine ⟨fun i m H2 => m = kw.ws.length - i ∧ i ≤ kw.ws.length ∧ ∃ io2 s2 acc av, Sim K mg ea io2 (pls Fr D) s2 (wipe σ vs) H2 ∧ Stp io1 (Ms io1 Fr s1 σ) Fr H1 io2 (Ms io2 (pls Fr D) s2 (wipe σ vs)) H2 ∧
      H2 D = some (.lst av) ∧ Rws K mg io2 (Ms io2 (pls Fr D) s2 (wipe σ vs)) H2 acc av ∧ (∀ j, j ∈ vs → s2.r[j]? = some .non ∨ s2.r[j]? = none) ∧ lcL2 vs vs1 t mt mi1 t1 mt1 me kw (kw.ws.drop i) acc s2 = some (r0, s'),
      ⟨kw.ws.length, by simp, Nat.zero_le _, io1, wipeS vs s1, [], [], SW, TW, upd_same, Rws.nil, fun j hj => (wipeR_get (r := s1.r)).2 hj, by simpa using e2⟩, ?_⟩
    rintro i m H2 ⟨rfl, hle, io2, s2, acc, av, S2, T2, hA, RA, wn, e3⟩
    have ck : kw.ok s2 := by
      cases hd : kw.ws.drop i with
      | nil =>
        rw [hd] at e3; unfold lcL2 at e3; split at e3
        · assumption
        · cases e3
      | cons w ws =>
        rw [hd] at e3; unfold lcL2 at e3; split at e3
        · assumption
        · cases e3
    have cn := cn_of S2 ck
    by_cases hlt : i < kw.ws.length
    · refine .inr ⟨G.go _ _ _ T2.p cn i hlt, fun H3 => ∃ io3 s3 acc av, Sim K mg ea io3 (pls Fr D) s3 (wipe σ vs) H3 ∧ Stp io1 (Ms io1 Fr s1 σ) Fr H1 io3 (Ms io3 (pls Fr D) s3 (wipe σ vs)) H3 ∧
        H3 D = some (.lst av) ∧ Rws K mg io3 (Ms io3 (pls Fr D) s3 (wipe σ vs)) H3 acc av ∧ (∀ j, j ∈ vs → s3.r[j]? = some .non ∨ s3.r[j]? = none) ∧ lcL2 vs vs1 t mt mi1 t1 mt1 me kw (kw.ws.drop (i + 1)) acc s3 = some (r0, s'),
        fun H3 ⟨io3, s3, acc, av, a1, a2, a3, a4, a6, a5⟩ => ⟨kw.ws.length - (i + 1), by omega, rfl, hlt, io3, s3, acc, av, a1, a2, a3, a4, a6, a5⟩, fun x H3 y => ?_⟩
      rw [drop_get hlt] at e3
      have item : ∃ io3, Sim K mg ea io3 (pls Fr D) s2 (wipe σ vs) H3 ∧ Stp io2 (Ms io2 (pls Fr D) s2 (wipe σ vs)) (pls Fr D) H2 io3 (Ms io3 (pls Fr D) s2 (wipe σ vs)) H3 ∧ Rw K mg io3 (Ms io3 (pls Fr D) s2 (wipe σ vs)) H3 kw.ws[i] x := by
        rcases G.yld _ _ _ T2.p cn (fun a z => S2.trkN z) i x H3 y kw.ws[i] (by simp [hlt]) with ⟨rfl, r⟩ | ⟨p, us, ws', hp, rfl, hw, rfl, r⟩
        · exact ⟨io2, S2, .refl, r⟩
        · obtain ⟨S3, T3⟩ := S2.laid (o := .tup us) hp
          have r' := r.pers T3.p
          refine ⟨io2, S3, T3, ?_⟩
          rw [hw]
          refine .tup (.inl ⟨upd_same, fun z => ?_⟩) r'.1 r'.2
          obtain ⟨u, e⟩ := S2.trk z
          rw [hp] at e; cases e
      obtain ⟨io3, S3, T3, R3⟩ := item
      have T23 := T2.trans (T3.frless pls.sub)
      have hA3 : H3 D = some (.lst av) := (T3.fr D (.inr rfl)).trans hA
      have RA3 := RA.pers T3.p
      unfold lcL2 at e3
      rw [if_pos ck] at e3
      cases ex : (bnd (t kw.ws[i]) fun _ => mt) s2 with
      | none => rw [ex] at e3; cases e3
      | some pr =>
        obtain ⟨rb, s4⟩ := pr
        rw [ex] at e3
        rcases bnd_some ex with ⟨z, e5, rfl⟩ | ⟨_, s5, e5, e6⟩
        · have := hg.ne _ _ _ _ e5
          cases this
        · refine hg.go (wipe σ vs) H3 io3 (pls Fr D) s2 _ x S3 R3 _ _ e5 _ fun σ5 S5 l5 n5 k5 => ?_
          have k5' : ∀ j, j ∉ vs → σ5[j]? = (wipe σ vs)[j]? := fun j hj => k5 j fun z => hj (hl j z)
          have we : wipe σ5 vs = wipe σ vs := by rw [wipe_eq n5 k5', wipe_wipe]
          refine ⟨we, ?_⟩
          have T5 : Stp io3 (Ms io3 (pls Fr D) s2 (wipe σ vs)) (pls Fr D) H3 io3 (Ms io3 (pls Fr D) s5 σ5) H3 := Stp.refl.less l5
          have back : ∀ {s6 : S} {H6 : Hp} {io6 : List Addr}, Sim K mg ea io6 (pls Fr D) s6 σ5 H6 → Sim K mg ea io6 (pls Fr D) (wipeS vs s6) (wipe σ vs) H6 ∧ (∀ b, Ms io6 (pls Fr D) (wipeS vs s6) (wipe σ vs) b → Ms io6 (pls Fr D) s6 σ5 b) := fun S6 =>
            S6.wiped (by rw [n5]) fun j hj => (k5' j hj).symm
          have back1 : ∀ {s6 : S} {H6 : Hp} {io6 : List Addr}, Sim K mg ea io6 (pls Fr D) s6 (wipe σ5 vs1) H6 → Sim K mg ea io6 (pls Fr D) (wipeS vs s6) (wipe σ vs) H6 ∧ (∀ b, Ms io6 (pls Fr D) (wipeS vs s6) (wipe σ vs) b → Ms io6 (pls Fr D) s6 (wipe σ5 vs1) b) := fun S6 =>
            S6.wiped (by simp only [wipe_length, n5]) fun j hj => by rw [(wipe_get (σ := σ5)).1 fun z => hj (hv j z)]; exact (k5' j hj).symm
          cases rb with
          | error z => cases e3
          | ok b =>
            refine ht σ5 H3 io3 (pls Fr D) s5 S5 _ _ e6 _ (fun b' q H6 io6 p6 => ?_) fun z q => by cases q
            cases q
            have T36 := T23.trans ((T5.trans p6.2).frless pls.sub)
            have hA6 : H6 D = some (.lst av) := (p6.2.fr D (.inr rfl)).trans hA3
            have RA6 := (RA3.pers T5.p).pers p6.2.p
            cases b with
            | false =>
              rw [if_neg Bool.false_ne_true]
              obtain ⟨S7, l7⟩ := back p6.1
              exact ⟨io6, _, acc, av, S7, T36.less l7, hA6, RA6.pers (.less l7), fun j hj => (wipeR_get (r := s4.r)).2 hj, e3⟩
            | true =>
              rw [if_pos rfl]
              simp only at e3
              cases em : mi1 s4 with
              | none => rw [em] at e3; cases e3
              | some pr1 =>
                obtain ⟨rk, s6⟩ := pr1
                rw [em] at e3
                cases rk with
                | error z => cases e3
                | ok k1 =>
                  simp only at e3
                  cases eb : lcB vs1 t1 mt1 me k1 k1.ws acc (wipeS vs1 s6) with
                  | none => rw [eb] at e3; cases e3
                  | some pr2 =>
                    obtain ⟨accF, sF⟩ := pr2
                    rw [eb] at e3
                    simp only at e3
                    refine hi1 σ5 H6 io6 (pls Fr D) s4 p6.1 _ _ em _ (fun kw' q J1 H7 io7 p7 G1 => ?_) fun z q => by cases q
                    cases q
                    obtain ⟨S7, l7⟩ := p7.1.wiped (l := vs1) (σ' := wipe σ5 vs1) (wipe_length σ5 vs1) fun j hj => (wipe_get (σ := σ5)).1 hj
                    have T37 := T36.trans (p7.2.frless pls.sub)
                    have hA7 : H7 D = some (.lst av) := (p7.2.fr D (.inr rfl)).trans hA6
                    have RA7 := RA6.pers p7.2.p
                    refine ⟨fun j m H8 => m = k1.ws.length - j ∧ j ≤ k1.ws.length ∧ ∃ io8 s8 acc8 av8, Sim K mg ea io8 (pls Fr D) s8 (wipe σ5 vs1) H8 ∧ Stp io1 (Ms io1 Fr s1 σ) Fr H1 io8 (Ms io8 (pls Fr D) s8 (wipe σ5 vs1)) H8 ∧
                      Stp io7 (Ms io7 (pls Fr D) s6 σ5) (fun _ => False) H7 io8 (Ms io8 (pls Fr D) s8 (wipe σ5 vs1)) H8 ∧
                      H8 D = some (.lst av8) ∧ Rws K mg io8 (Ms io8 (pls Fr D) s8 (wipe σ5 vs1)) H8 acc8 av8 ∧ lcB vs1 t1 mt1 me k1 (k1.ws.drop j) acc8 s8 = some (accF, sF),
                      ⟨k1.ws.length, by simp, Nat.zero_le _, io7, wipeS vs1 s6, acc, av, S7, T37.less l7, Stp.refl.less l7, hA7, RA7.pers (.less l7), by simpa using eb⟩, ?_⟩
                    rintro j m H8 ⟨rfl, hle1, io8, s8, acc8, av8, S8, T8, T78, hA8, RA8, e8⟩
                    have ck1 : k1.ok s8 := by
                      cases hd : k1.ws.drop j with
                      | nil =>
                        rw [hd] at e8; unfold lcB at e8; split at e8
                        · assumption
                        · cases e8
                      | cons w ws =>
                        rw [hd] at e8; unfold lcB at e8; split at e8
                        · assumption
                        · cases e8
                    have cn1 := cn_of S8 ck1
                    by_cases hlt1 : j < k1.ws.length
                    · refine .inr ⟨G1.go _ _ _ T78.p cn1 j hlt1, fun H9 => ∃ io8 s8 acc8 av8, Sim K mg ea io8 (pls Fr D) s8 (wipe σ5 vs1) H9 ∧ Stp io1 (Ms io1 Fr s1 σ) Fr H1 io8 (Ms io8 (pls Fr D) s8 (wipe σ5 vs1)) H9 ∧
                        Stp io7 (Ms io7 (pls Fr D) s6 σ5) (fun _ => False) H7 io8 (Ms io8 (pls Fr D) s8 (wipe σ5 vs1)) H9 ∧
                        H9 D = some (.lst av8) ∧ Rws K mg io8 (Ms io8 (pls Fr D) s8 (wipe σ5 vs1)) H9 acc8 av8 ∧ lcB vs1 t1 mt1 me k1 (k1.ws.drop (j + 1)) acc8 s8 = some (accF, sF),
                        fun H9 ⟨io8, s8, acc8, av8, a1, a2, a3, a4, a5, a6⟩ => ⟨k1.ws.length - (j + 1), by omega, rfl, hlt1, io8, s8, acc8, av8, a1, a2, a3, a4, a5, a6⟩, fun x1 H9 y1 => ?_⟩
                      rw [drop_get hlt1] at e8
                      have item1 : ∃ io9, Sim K mg ea io9 (pls Fr D) s8 (wipe σ5 vs1) H9 ∧ Stp io8 (Ms io8 (pls Fr D) s8 (wipe σ5 vs1)) (pls Fr D) H8 io9 (Ms io9 (pls Fr D) s8 (wipe σ5 vs1)) H9 ∧ Rw K mg io9 (Ms io9 (pls Fr D) s8 (wipe σ5 vs1)) H9 k1.ws[j] x1 := by
                        rcases G1.yld _ _ _ T78.p cn1 (fun a z => S8.trkN z) j x1 H9 y1 k1.ws[j] (by simp [hlt1]) with ⟨rfl, r⟩ | ⟨p, us, ws', hp, rfl, hw, rfl, r⟩
                        · exact ⟨io8, S8, .refl, r⟩
                        · obtain ⟨S3, T3⟩ := S8.laid (o := .tup us) hp
                          have r' := r.pers T3.p
                          refine ⟨io8, S3, T3, ?_⟩
                          rw [hw]
                          refine .tup (.inl ⟨upd_same, fun z => ?_⟩) r'.1 r'.2
                          obtain ⟨u, e⟩ := S8.trk z
                          rw [hp] at e; cases e
                      obtain ⟨io9, S9, T9, R9⟩ := item1
                      have T19 := T8.trans (T9.frless pls.sub)
                      have T79 := T78.trans (T9.frless fun b z => z.elim)
                      have hA9 : H9 D = some (.lst av8) := (T9.fr D (.inr rfl)).trans hA8
                      have RA9 := RA8.pers T9.p
                      unfold lcB at e8
                      rw [if_pos ck1] at e8
                      cases ex1 : (bnd (t1 k1.ws[j]) fun _ => mt1) s8 with
                      | none => rw [ex1] at e8; cases e8
                      | some pr3 =>
                        obtain ⟨rb1, s10⟩ := pr3
                        rw [ex1] at e8
                        rcases bnd_some ex1 with ⟨z, e9, rfl⟩ | ⟨_, s11, e9, e10⟩
                        · have := hg1.ne _ _ _ _ e9
                          cases this
                        · refine hg1.go (wipe σ5 vs1) H9 io9 (pls Fr D) s8 _ x1 S9 R9 _ _ e9 _ fun σ6 S11 l11 n11 k11 => ?_
                          have k11' : ∀ j, j ∉ vs1 → σ6[j]? = (wipe σ5 vs1)[j]? := fun j hj => k11 j fun z => hj (hl1 j z)
                          have we1 : wipe σ6 vs1 = wipe σ5 vs1 := by rw [wipe_eq n11 k11', wipe_wipe]
                          refine ⟨we1, ?_⟩
                          have T11 : Stp io9 (Ms io9 (pls Fr D) s8 (wipe σ5 vs1)) (pls Fr D) H9 io9 (Ms io9 (pls Fr D) s11 σ6) H9 := Stp.refl.less l11
                          have back2 : ∀ {s6 : S} {H6 : Hp} {io6 : List Addr}, Sim K mg ea io6 (pls Fr D) s6 σ6 H6 → Sim K mg ea io6 (pls Fr D) (wipeS vs1 s6) (wipe σ5 vs1) H6 ∧ (∀ b, Ms io6 (pls Fr D) (wipeS vs1 s6) (wipe σ5 vs1) b → Ms io6 (pls Fr D) s6 σ6 b) := fun S6 =>
                            S6.wiped (by rw [n11]) fun j hj => (k11' j hj).symm
                          cases rb1 with
                          | error z => cases e8
                          | ok b1 =>
                            refine ht1 σ6 H9 io9 (pls Fr D) s11 S11 _ _ e10 _ (fun b' q H12 io12 p12 => ?_) fun z q => by cases q
                            cases q
                            have T12 := T11.trans p12.2
                            have T112 := T19.trans (T12.frless pls.sub)
                            have T712 := T79.trans (T12.frless fun b z => z.elim)
                            have hA12 : H12 D = some (.lst av8) := (T12.fr D (.inr rfl)).trans hA9
                            have RA12 := RA9.pers T12.p
                            cases b1 with
                            | false =>
                              rw [if_neg Bool.false_ne_true]
                              obtain ⟨S13, l13⟩ := back2 p12.1
                              exact ⟨io12, _, acc8, av8, S13, T112.less l13, T712.less l13, hA12, RA12.pers (.less l13), e8⟩
                            | true =>
                              rw [if_pos rfl]
                              simp only at e8
                              cases ey : (bnd me fun x => freeze (settle x)) s10 with
                              | none => rw [ey] at e8; cases e8
                              | some pr4 =>
                                obtain ⟨ry, s13⟩ := pr4
                                rw [ey] at e8
                                cases ry with
                                | error z => cases e8
                                | ok yv =>
                                  simp only at e8
                                  split at e8
                                  · rename_i hz
                                    refine one2 he p12.1 ey (fun x q => by cases q) fun xr v s14 H14 io14 e14 p14 => ?_
                                    obtain ⟨S14, T14, R14⟩ := p14.settled
                                    obtain ⟨_, l15, S15, w', q, R15⟩ := freeze_ok S14 R14 e14
                                    cases q
                                    have hA14 : H14 D = some (.lst av8) := (T14.fr D (.inr rfl)).trans hA12
                                    have RA14 := (RA12.pers T14.p).pers (.less l15)
                                    refine ⟨av8, hA14, by rw [sz_eq, ← RA14.1]; exact hz, ?_⟩
                                    have S16 := S15.updFr (o' := .lst (av8 ++ [v])) (.inr rfl) hA14
                                    obtain ⟨S17, l17⟩ := back2 S16
                                    have T17 : Stp io1 (Ms io1 Fr s1 σ) Fr H1 io14 (Ms io14 (pls Fr D) (wipeS vs1 s13) (wipe σ5 vs1)) (upd H14 D (.lst (av8 ++ [v]))) :=
                                      ((T112.trans ((T14.less l15).frless pls.sub)).updNew hD nFD hA14).less l17
                                    have T7b : Stp io7 (Ms io7 (pls Fr D) s6 σ5) (fun _ => False) H7 io14 (Ms io14 (pls Fr D) s13 σ6) H14 := T712.trans ((T14.less l15).frless fun b z => z.elim)
                                    have T7c : Stp io7 (Ms io7 (pls Fr D) s6 σ5) (fun _ => False) H7 io14 (Ms io14 (pls Fr D) (wipeS vs1 s13) (wipe σ5 vs1)) (upd H14 D (.lst (av8 ++ [v]))) := (T7b.trans (stp_upd (.inr (.inl (.inr rfl))))).less l17
                                    have PD : Pers io14 (Ms io14 (pls Fr D) s13 σ6) H14 io14 (Ms io14 (pls Fr D) (wipeS vs1 s13) (wipe σ5 vs1)) (upd H14 D (.lst (av8 ++ [v]))) :=
                                      ⟨fun b u e h => by rw [upd_ne (fun z => by subst z; exact h (.inr (.inl (.inr rfl))))]; exact e, fun b z => .inl (l17 b z), fun _ _ e => e⟩
                                    exact ⟨io14, _, acc8 ++ [yv], av8 ++ [v], S17, T17, T7c, upd_same, (RA14.append (Rws.one R15)).pers PD, e8⟩
                                  · cases e8
                    · have hi' : j = k1.ws.length := by omega
                      subst hi'
                      rw [List.drop_length] at e8
                      unfold lcB at e8
                      rw [if_pos ck1] at e8
                      cases e8
                      obtain ⟨S13, l13⟩ := back1 S8
                      exact .inl ⟨G1.stop _ _ _ T78.p cn1, io8, _, accF, av8, S13, T8.less l13, hA8, RA8.pers (.less l13), fun j hj => (wipeR_get (r := sF.r)).2 hj, e3⟩
    · have hi' : i = kw.ws.length := by omega
      subst hi'
      rw [List.drop_length] at e3
      unfold lcL2 at e3
      rw [if_pos ck] at e3
      cases e3
      refine .inl ⟨G.stop _ _ _ T2.p cn, hok _ rfl (.ref D) H2 io2 ?_⟩
      obtain ⟨S3, l3⟩ := S2.sub (r' := s'.r) (σ' := σ) (by rw [S2.len, wipe_length]) fun j => by
        by_cases hj : j ∈ vs
        · exact .inr (wn j hj)
        · exact .inl ⟨rfl, ((wipe_get (σ := σ)).1 hj).symm⟩
      refine ⟨D, .lst av, rfl, hA, fun z => ?_, S3, (px.2.trans T2).less l3, av, rfl, RA.pers (.less l3)⟩
      rcases z with z | ⟨j, c, h1, h2⟩
      · exact nFD z
      · obtain ⟨b, o, q1, _, _, q4⟩ := S3.own j c h1
        rw [h2] at q1
        cases q1
        exact q4 (.inr rfl)
end
section
variable {X : Cx} {ea : EA} {Wx : WX} {pos p p2 pos2 : Pos} {a b : Expr} {m m' : Mo RV}
def iOf (K : PySem.W.Frag) (mg : Str → Option Value) (ea : EA) (Wx : WX) (m : Mo Wk) : TI := fun σ H R => ∃ io Fr s r s', Sim K mg ea io Fr s σ H ∧ m s = some (r, s') ∧ (∀ k, r = .ok k → ∀ J H' io', PostS K mg ea io Fr s σ H s' σ io' H' → ItG K mg J k io' (Ms io' Fr s' σ) H' → R J H') ∧
  (∀ x, r = .error x → ∀ cls d H' io', PostX K mg ea io Fr s σ H s' σ io' H' x cls d → Wx cls d σ H')
theorem ref_iOf {K : PySem.W.Frag} {mg : Str → Option Value} (m : Mo Wk) : RefI K mg ea Wx (iOf K mg ea Wx m) m := fun σ H io Fr s S0 r s' e Q h1 h2 => ⟨io, Fr, s, r, s', S0, e, h1, h2⟩
theorem Pei.can {tg iter : Expr} {mi : Mo Wk} (h : Pei X ea Wx tg iter mi) : PI X tg iter (iOf X.K X.mg ea Wx mi) := by
  obtain ⟨wi, q, r⟩ := h.ex
  exact ⟨fun pins s σ H R I ⟨io, Fr, s1, r0, s', S0, e, h1, h2⟩ => q.run pins s σ H R I (r σ H io Fr s1 S0 r0 s' e R h1 h2)⟩
structure Blk2 (X : Cx) (ea : EA) (tg elt : Expr) (ifs : List Expr) (tg1 iter1 : Expr) (ifs1 : List Expr) (scope : Scope) (own : List (Str × Nat)) (vs1 : List Nat) (t : W → Mo Unit) (l : List Nat) (mt : Mo Bool) (mi1 : Mo Wk) (t1 : W → Mo Unit) (l1 : List Nat) (mt1 : Mo Bool) (me : Mo RV) : Prop where
  ok : BlkOk X.N X.env.scope scope own
  ne : ∀ w s r s', t w s = some (r, s') → r = .ok ()
  sub : ∀ i ∈ l, i ∈ own.map (·.2)
  ne1 : ∀ w s r s', t1 w s = some (r, s') → r = .ok ()
  sub1 : ∀ i ∈ l1, i ∈ vs1
  hv : ∀ i ∈ vs1, i ∈ own.map (·.2)
  tg : ∀ (s : Shared) (H : Hp) (C : Addr) (cl : List (Str × Addr)) (fp : List Addr), Peg (X.blk s H scope (compEnvC scope cl C X.env) fp) ea tg t l
  ts : ∀ (s : Shared) (H : Hp) (C : Addr) (cl : List (Str × Addr)) (fp : List Addr), Pets (X.blk s H scope (compEnvC scope cl C X.env) fp) ea W0 ifs mt
  it : ∀ (s : Shared) (H : Hp) (C : Addr) (cl : List (Str × Addr)) (fp : List Addr), Pei (X.blk s H scope (compEnvC scope cl C X.env) fp) ea W0 tg1 iter1 mi1
  tg1 : ∀ (s : Shared) (H : Hp) (C : Addr) (cl : List (Str × Addr)) (fp : List Addr), Peg (X.blk s H scope (compEnvC scope cl C X.env) fp) ea tg1 t1 l1
  ts1 : ∀ (s : Shared) (H : Hp) (C : Addr) (cl : List (Str × Addr)) (fp : List Addr), Pets (X.blk s H scope (compEnvC scope cl C X.env) fp) ea W0 ifs1 mt1
  el : ∀ (s : Shared) (H : Hp) (C : Addr) (cl : List (Str × Addr)) (fp : List Addr), Pee (X.blk s H scope (compEnvC scope cl C X.env) fp) ea W0 elt me
section
variable {tg elt tg1 iter iter1 : Expr} {ifs ifs1 : List Expr} {scope : Scope} {own : List (Str × Nat)} {vs1 : List Nat} {t : W → Mo Unit} {l : List Nat} {mt : Mo Bool} {mi mi1 : Mo Wk} {t1 : W → Mo Unit} {l1 : List Nat} {mt1 : Mo Bool} {me : Mo RV}
theorem Blk2.ref (b : Blk2 X ea tg elt ifs tg1 iter1 ifs1 scope own vs1 t l mt mi1 t1 l1 mt1 me) {wi : TI} (r : RefI X.K X.mg ea Wx wi mi) : RefE X.K X.mg ea Wx (tLc2 wi (gOf X.K X.mg ea t l) (ttOf X.K X.mg ea W0 mt) (iOf X.K X.mg ea W0 mi1) (gOf X.K X.mg ea t1 l1) (ttOf X.K X.mg ea W0 mt1) (tOf X.K X.mg ea W0 me) (own.map (·.2)) vs1) (mLc2 (own.map (·.2)) vs1 mi t mt mi1 t1 mt1 me) :=
  ref_lc2 r (ref_gOf b.ne) b.sub (ref_ttOf _) (ref_iOf _) (ref_gOf b.ne1) b.sub1 b.hv (ref_ttOf _) (ref_tOf _)
end
theorem pee_lr1 (hm : X.mg "list" = none) (hr : X.mg "range" = none) (h : Pee X ea Wx a m) (hc : X.calm = true := by rfl) (hg : Gl X "list" := by rfl) (hg2 : Gl X "range" := by rfl) (na : starEach [a] X.env = (false, eval a X.env) :: starEach [] X.env := by rfl)
    (nb : starEach [.Call (.Name "range" p2) [a] [] pos2] X.env = (false, eval (.Call (.Name "range" p2) [a] [] pos2) X.env) :: starEach [] X.env := by rfl) :
    Pee X ea Wx (.Call (.Name "list" p) [.Call (.Name "range" p2) [a] [] pos2] [] pos) (mUn fLr1 m) := let ⟨_, q, r⟩ := h.ex; ⟨_, pe_listRg hc hg hm (prg_1 hg2 hr q na) nb, ref_lr1 r⟩
end
end Z
set_option Elab.async false
set_option linter.all false
set_option maxRecDepth 100000
namespace Z
open PySem PySem.Spec PyProof.Rows L2
section
variable {r : List SV} {G : List Cell} {m ma mb me : Mo RV} {s : S} {vs vs1 : List Nat} {t t1 : W → Mo Unit} {tt tt1 : Mo Bool} {mi mi1 : Mo Wk} {k : Wk} {a b : Int}
@[simp] theorem mLc2_e : mLc2 vs vs1 mi t tt mi1 t1 tt1 me ⟨r, G⟩ = bnd mi (fun k s => lcL2 vs vs1 t tt mi1 t1 tt1 me k k.ws [] (wipeS vs s)) ⟨r, G⟩ := rfl
@[simp] theorem fLr1_i : fLr1 (.int a) = if Rl 0 a then some (.newl (rngW 0 a.toNat)) else none := rfl
theorem rl_le {i j : Int} (h1 : 0 ≤ i) (h2 : j ≤ 1000000) (h3 : i ≤ 1000000) (h4 : 0 ≤ j) : Rl i j := by
  unfold Rl RgOk
  omega
variable {γ δ : Type} {e : γ → W} {e1 : δ → W}
end
def outF : Option (Except Ex Fl × S) → Option (Except Ex FV × List Cell)
  | some (.ok (.rt f), s) => some (.ok f, s.G)
  | some (.ok .nx, s) => some (.ok (.val .non), s.G)
  | some (.error x, s) => some (.error x, s.G)
  | _ => none
theorem fnM_o {n : Nat} {body : Mo Fl} {ws : List W} {G : List Cell} : fnM n body ws G = outF (body ⟨ws.map SV.val ++ List.replicate (n - ws.length) SV.non, G⟩) := rfl
@[simp] theorem outF_rt {f : FV} {s : S} : outF (some (.ok (.rt f), s)) = some (.ok f, s.G) := rfl
@[simp] theorem outF_nx {s : S} : outF (some (.ok .nx, s)) = some (.ok (.val .non), s.G) := rfl
@[simp] theorem outF_er {x : Ex} {s : S} : outF (some (.error x, s)) = some (.error x, s.G) := rfl
end Z
set_option Elab.async false
set_option linter.all false
set_option maxRecDepth 100000
namespace Z
open PySem PySem.Spec PyProof.Rows L2
abbrev TB := L2.St → Hp → (Hp → Prop) → Prop
def Clean (L : List Nat) (σ : L2.St) : Prop := ∀ j ∈ L, ∀ v, σ[j]? ≠ some (some v)
structure PB (X : Cx) (inner : Sem Fin → Sem Fin) (L : List Nat) (t : TB) : Prop where
  run : ∀ (pl : List (Addr × Obj)) (s : Shared) (σ : L2.St) (H : Hp) (N : Hp → Prop), Inv X pl σ H s → Clean L σ → t σ H N → ∀ (k : Sem Fin) (Q : Fin → Shared → Prop) (E : Value → Shared → Prop),
    (∀ s' H', Inv X pl σ H' s' → N H' → wpAny (model X.prog X.w) X.A k Q E s') → wpAny (model X.prog X.w) X.A (inner k) Q E s
end Z
set_option Elab.async false
set_option linter.all false
set_option maxRecDepth 100000
namespace Z
open PySem PySem.Spec PyProof.Rows L2
abbrev KVs := List (List Key × W)
abbrev MB := KVs → S → Option (KVs × S)
end Z
set_option Elab.async false
set_option linter.all false
set_option maxRecDepth 100000
namespace Z
open PySem PySem.Spec PyProof.Rows L2
section
variable {X : Cx} {ea : EA} {Wx : WX} {pos : Pos} {ke ve tg iter : Expr} {ifs : List Expr} {scope : Scope} {own : List (Str × Nat)} {mi : Mo Wk} {t : W → Mo Unit} {l : List Nat} {mt : Mo Bool} {mk mv me : Mo RV}
structure BlkD (X : Cx) (ea : EA) (tg ke ve : Expr) (ifs : List Expr) (scope : Scope) (own : List (Str × Nat)) (t : W → Mo Unit) (l : List Nat) (mt : Mo Bool) (mk mv : Mo RV) : Prop where
  ok : BlkOk X.N X.env.scope scope own
  ne : ∀ w s r s', t w s = some (r, s') → r = .ok ()
  sub : ∀ i ∈ l, i ∈ own.map (·.2)
  tg : ∀ (s : Shared) (H : Hp) (C : Addr) (cl : List (Str × Addr)) (fp : List Addr), Peg (X.blk s H scope (compEnvC scope cl C X.env) fp) ea tg t l
  ts : ∀ (s : Shared) (H : Hp) (C : Addr) (cl : List (Str × Addr)) (fp : List Addr), Pets (X.blk s H scope (compEnvC scope cl C X.env) fp) ea W0 ifs mt
  ky : ∀ (s : Shared) (H : Hp) (C : Addr) (cl : List (Str × Addr)) (fp : List Addr), Pee (X.blk s H scope (compEnvC scope cl C X.env) fp) ea W0 ke mk
  vl : ∀ (s : Shared) (H : Hp) (C : Addr) (cl : List (Str × Addr)) (fp : List Addr), Pee (X.blk s H scope (compEnvC scope cl C X.env) fp) ea W0 ve mv
structure BlkD3 (X : Cx) (ea : EA) (tg ke ve : Expr) (ifs : List Expr) (tg1 i1 : Expr) (f1 : List Expr) (tg2 i2 : Expr) (f2 : List Expr) (scope : Scope) (own : List (Str × Nat)) (v0 v1 v2 : List Nat) (t : W → Mo Unit) (l : List Nat) (mt : Mo Bool) (mi1 : Mo Wk) (t1 : W → Mo Unit) (l1 : List Nat) (mt1 : Mo Bool) (mi2 : Mo Wk) (t2 : W → Mo Unit) (l2 : List Nat) (mt2 : Mo Bool) (mk mv : Mo RV) : Prop where
  ok : BlkOk X.N X.env.scope scope own
  ne : ∀ w s r s', t w s = some (r, s') → r = .ok ()
  ne1 : ∀ w s r s', t1 w s = some (r, s') → r = .ok ()
  ne2 : ∀ w s r s', t2 w s = some (r, s') → r = .ok ()
  sub : ∀ i ∈ l, i ∈ v0
  sub1 : ∀ i ∈ l1, i ∈ v1
  sub2 : ∀ i ∈ l2, i ∈ v2
  hv : (∀ i ∈ v0, i ∈ own.map (·.2)) ∧ (∀ i ∈ v1 ++ (v2 ++ []), i ∈ own.map (·.2)) ∧ (∀ i ∈ v1 ++ (v2 ++ []), i ∉ v0) ∧ ∀ i ∈ v2 ++ [], i ∉ v1
  tg : ∀ (s : Shared) (H : Hp) (C : Addr) (cl : List (Str × Addr)) (fp : List Addr), Peg (X.blk s H scope (compEnvC scope cl C X.env) fp) ea tg t l
  ts : ∀ (s : Shared) (H : Hp) (C : Addr) (cl : List (Str × Addr)) (fp : List Addr), Pets (X.blk s H scope (compEnvC scope cl C X.env) fp) ea W0 ifs mt
  it1 : ∀ (s : Shared) (H : Hp) (C : Addr) (cl : List (Str × Addr)) (fp : List Addr), Pei (X.blk s H scope (compEnvC scope cl C X.env) fp) ea W0 tg1 i1 mi1
  tg1 : ∀ (s : Shared) (H : Hp) (C : Addr) (cl : List (Str × Addr)) (fp : List Addr), Peg (X.blk s H scope (compEnvC scope cl C X.env) fp) ea tg1 t1 l1
  ts1 : ∀ (s : Shared) (H : Hp) (C : Addr) (cl : List (Str × Addr)) (fp : List Addr), Pets (X.blk s H scope (compEnvC scope cl C X.env) fp) ea W0 f1 mt1
  it2 : ∀ (s : Shared) (H : Hp) (C : Addr) (cl : List (Str × Addr)) (fp : List Addr), Pei (X.blk s H scope (compEnvC scope cl C X.env) fp) ea W0 tg2 i2 mi2
  tg2 : ∀ (s : Shared) (H : Hp) (C : Addr) (cl : List (Str × Addr)) (fp : List Addr), Peg (X.blk s H scope (compEnvC scope cl C X.env) fp) ea tg2 t2 l2
  ts2 : ∀ (s : Shared) (H : Hp) (C : Addr) (cl : List (Str × Addr)) (fp : List Addr), Pets (X.blk s H scope (compEnvC scope cl C X.env) fp) ea W0 f2 mt2
  ky : ∀ (s : Shared) (H : Hp) (C : Addr) (cl : List (Str × Addr)) (fp : List Addr), Pee (X.blk s H scope (compEnvC scope cl C X.env) fp) ea W0 ke mk
  vl : ∀ (s : Shared) (H : Hp) (C : Addr) (cl : List (Str × Addr)) (fp : List Addr), Pee (X.blk s H scope (compEnvC scope cl C X.env) fp) ea W0 ve mv
end
end Z
set_option linter.all false
set_option Elab.async false
set_option maxRecDepth 100000
set_option linter.all false
set_option Elab.async false
set_option maxRecDepth 100000
namespace Z
open PySem PySem.Spec PyProof.Rows L2
def srcD (d : Addr) (ob : Obj) (av : List (List Key × V)) : Src where
  src := d
  len := av.length
  st := fun it i h => ∃ es ep, ob.data = .dict es ep ∧ es.size = av.length ∧ h.IsKeyIter it d i es.size ep
  fin := fun _ => none
  yl := fun i v H => ∃ k u q, av[i]? = some (k, u) ∧ v = .ref q ∧ H q = some (.tup (k.map kV))
  ok := fun H => H d = some (.frz ob (.dT av))
end Z
set_option linter.all false
set_option Elab.async false
set_option maxRecDepth 100000
namespace Z
open PySem PySem.Spec PyProof.Rows L2
abbrev FunE (K : PySem.W.Frag) (x qual : Str) (st : Stmt) (f : Addr) (fd : FuncData) (E : Addr) : Prop := L2.FunD K x qual (defArgs st) (defBody st) (defScope st) [.ref E] [] f fd
section
variable {P : Program} {w : World} {K : PySem.W.Frag} {mg : Str → Option Value} {base : Heap} {x qual : Str} {st : Stmt} {f E : Addr} {fd : FuncData} {N ps : List Str} {k n : Nat} {body : Mo Fl}
abbrev BindE (x qual : Str) (st : Stmt) (ps : List Str) (n j : Nat) : Prop := ∀ (T : Addr) (kV doc pm : Value) (an : Option Addr) (cdv ct : Value) (us its : List Value), us.length = n → its.length = 1 →
  ∃ k, bindArgs (PySem.W.fnOf x qual (defArgs st) (defBody st) (defScope st) (.ref T) kV doc pm an cdv ct) ⟨us, []⟩ = seqItems? (.ref T) >>= k ∧ k (some its.toArray) = pure (ps.zip (us ++ its.drop j))
theorem FunE.all (F : FunE K x qual st f fd E) (h : BindE x qual st ps ps.length 1) : Binds K fd ps [] := by
  obtain ⟨ds, r, b⟩ := L2.FunD.binds1 F ps.length 1 (by simp) (by simp) h
  cases r
  exact b
theorem FunE.less (F : FunE K x qual st f fd E) (n : Nat) (hn : n + 1 = ps.length) (h : BindE x qual st ps n 0) : Binds K fd ps [.ref E] := by
  obtain ⟨ds, r, b⟩ := L2.FunD.binds1 F n 0 (by simp) (by simpa using hn) h
  obtain ⟨u, rfl, e⟩ := Vals.one r
  cases e
  exact b
end
end Z
set_option linter.all false
set_option Elab.async false
set_option maxRecDepth 100000
namespace Z
open PySem PySem.Spec PyProof.Rows L2
section
variable {r : List SV} {G : List Cell} {s : S} {m mk mv : Mo RV} {ms : Mo (List RV)} {mi : Mo Wk} {t : W → Mo Unit} {tt : Mo Bool} {body : MB} {ow vs : List Nat} {acc : KVs} {k : Wk} {w : W} {kvs : KVs}
@[simp] theorem deref_dF : derefW s (.dF kvs) = some (.dF kvs) := rfl
@[simp] theorem look_dF : look (.val (.dF kvs)) ⟨r, G⟩ = some (.ok (.dF kvs), ⟨r, G⟩) := rfl
variable {γ : Type} {e : γ → W}
end
end Z
set_option linter.all false
set_option Elab.async false
set_option maxRecDepth 100000
set_option linter.all false
set_option Elab.async false
set_option maxRecDepth 100000
namespace Z
open PySem PySem.Spec PyProof.Rows L2
structure FnIt (P : Program) (w : World) (K : PySem.W.Frag) (mg : Str → Option Value) (base : Heap) (f : Addr) (fd : FuncData) (ps : List Str) (C : Addr) (fl : Str) : Prop where
  run : ∀ (A : Around) (outer : List Env) (s : Shared) (H : Hp) (args : Args) (us : List Value) (a : Addr) (Q : VK), Room 1 A → Env0 P w K mg base A outer s H → BindsTo s fd args (ps.zip us) → Vals [.ref a] us →
    (∃ dx fs d ob av, H a = some (.ins C dx fs) ∧ fs.lookup fl = some (.ref d) ∧ H d = some (.frz ob (.dT av)) ∧ ∀ it, H it = none → s.heap.objs.size ≤ it → Q (.ref it) (upd H it ((srcD d ob av).at it 0))) →
    codeAny (model P w) A (.call (.ref f) args) (CR (L2.CX P w) outer P w H s Q E0) s
end Z
set_option linter.all false
set_option Elab.async false
set_option maxRecDepth 100000
set_option linter.all false
set_option Elab.async false
set_option maxRecDepth 100000
namespace Z
open PySem PySem.Spec PyProof.Rows L2
structure Sl5 (K : PySem.W.Frag) (C : Addr) (n0 n1 n2 n3 n4 : Str) : Prop where
  c : SlX.SCls K C
  s0 : ∃ p, SlX.Slot1 K C n0 p 2
  s1 : ∃ p, SlX.Slot1 K C n1 p 3
  s2 : ∃ p, SlX.Slot1 K C n2 p 1
  s3 : ∃ p, SlX.Slot1 K C n3 p 4
  s4 : ∃ p, SlX.Slot1 K C n4 p 0
end Z
set_option linter.all false
set_option Elab.async false
set_option maxRecDepth 100000
namespace Z
open PySem PySem.Spec PyProof.Rows L2
def SlN (K : PySem.W.Frag) (mg : Str → Option Value) (tab : List (Str × Nat)) (f : Str) : Prop := ∀ nm i, tab.lookup nm = some i → ∃ C, mg nm = some (.ref C) ∧ SlX.SCls K C ∧ ∃ p, SlX.Slot1 K C f p i
theorem SlN.nil {K : PySem.W.Frag} {mg : Str → Option Value} {f : Str} : SlN K mg [] f := fun nm i h => by cases h
theorem SlN.cons {K : PySem.W.Frag} {mg : Str → Option Value} {f nm : Str} {C p : Addr} {i : Nat} {tab : List (Str × Nat)} (hC : mg nm = some (.ref C)) (c : SlX.SCls K C) (s : SlX.Slot1 K C f p i) (r : SlN K mg tab f) : SlN K mg ((nm, i) :: tab) f := fun n j h => by
  rw [List.lookup_cons] at h
  by_cases e : (n == nm) = true
  · rw [e] at h
    cases h
    rw [eq_of_beq e]
    exact ⟨C, hC, c, p, s⟩
  · rw [show (n == nm) = false by simpa using e] at h
    exact r n j h
section
variable {K : PySem.W.Frag} {mg : Str → Option Value} {ea : EA} {Wx : WX} {io : List Addr} {Fr : Addr → Prop} {s s' : S} {σ : L2.St} {H : Hp} {M : Addr → Prop} {nm : Str} {ws : List W} {v : V}
theorem Rn.slt (h : Rn K mg io M H (.slt nm ws) v) : ∃ (a C dx : Addr) (vs : List V), v = .ref a ∧ mg nm = some (.ref C) ∧ H a = some (SlX.SlO a C dx (vs.map some)) ∧ H dx = some (.xd []) ∧ Rws K mg io M H ws vs := by
  rcases h with h | ⟨c, o, a, e, rfl, ha, hc⟩
  · cases h with
    | slt m h n h2 n2 l q => exact ⟨_, _, _, _, rfl, m, h, h2, l, q⟩
  · cases c <;> cases e
end
section
variable {r : List SV} {G : List Cell} {ms : Mo (List RV)} {nm : Str} {ws : List W} {a b c d e : W} {tab : List (Str × Nat)}
@[simp] theorem look_slt : look (.val (.slt nm ws)) ⟨r, G⟩ = some (.ok (.slt nm ws), ⟨r, G⟩) := rfl
@[simp] theorem deref_slt {s : S} : derefW s (.slt nm ws) = some (.slt nm ws) := rfl
end
end Z
set_option linter.all false
set_option Elab.async false
set_option maxRecDepth 100000
set_option linter.all false
set_option Elab.async false
set_option maxRecDepth 100000
set_option linter.all false
set_option Elab.async false
set_option maxRecDepth 100000
namespace Z
open PySem PySem.Spec PyProof.Rows L2
def Sk (i : Int) : Prop := i.natAbs.log2 < 1920
noncomputable instance (i : Int) : Decidable (Sk i) := Classical.propDecidable _
def Mk6 (i : Int) : Prop := 0 ≤ i ∧ i < 1000000
noncomputable instance (i : Int) : Decidable (Mk6 i) := Classical.propDecidable _
def Jk (n : Nat) : Prop := n ≤ 16777216
noncomputable instance (n : Nat) : Decidable (Jk n) := Classical.propDecidable _
def mJs : List (Mo RV) → Str → Mo RV
  | [], acc => ret (.val (.str acc))
  | m :: ms, acc => bnd m fun x => match x with
    | .val (.str y) => if (acc ++ y).length ≤ sz then mJs ms (acc ++ y) else stk
    | _ => stk
section
variable {X : Cx} {K : PySem.W.Frag} {mg : Str → Option Value} {ea : EA} {Wx : WX} {ws : List W} {vs : List V}
structure Pej (X : Cx) (ea : EA) (Wx : WX) (es : List Expr) (ms : List (Mo RV)) : Prop where
  ex : ∃ ts, PJ X es ts ∧ ∀ acc, RefE X.K X.mg ea Wx (fun σ H Q => tJs ts acc σ H fun out H1 => Q (.str out) H1) (mJs ms acc)
end
end Z
set_option linter.all false
set_option Elab.async false
set_option maxRecDepth 100000
namespace Z
open PySem PySem.Spec PyProof.Rows L2
section
variable {r : List SV} {G : List Cell} {m mo me : Mo RV} {ms : List (Mo RV)} {acc a x : Str} {b : Array UInt8} {i : Int} {nm : Str} {w : W} {ws : List W} {f : Str → W → Option OR} {mf : Fn}
@[simp] theorem mJs_nil : mJs [] acc ⟨r, G⟩ = some (.ok (.val (.str acc)), ⟨r, G⟩) := rfl
@[simp] theorem mJs_cons : mJs (m :: ms) acc ⟨r, G⟩ = bnd m (fun x => match x with
    | .val (.str y) => if (acc ++ y).length ≤ sz then mJs ms (acc ++ y) else stk
    | _ => stk) ⟨r, G⟩ := rfl
@[simp] theorem freeze_slt : freeze (.val (.slt nm ws)) ⟨r, G⟩ = some (.ok (.slt nm ws), ⟨r, G⟩) := rfl
end
end Z
set_option linter.all false
set_option Elab.async false
set_option maxRecDepth 100000
namespace Z
open PySem PySem.Spec PyProof.Rows L2
def cod (x : Str) : List Nat := x.cps.toList
def dgs (n : Nat) : List Nat := (Nat.toDigits 10 n).map Char.toNat
theorem dgs_le {k n : Nat} (hk : 1 ≤ k) (hn : n < 10 ^ k) : (dgs n).length ≤ k := by
  unfold dgs
  rw [List.length_map]
  exact digits10_le hk hn
def zT (k n : Nat) : Str := ⟨(List.replicate (k - (dgs n).length) 48 ++ dgs n).toArray⟩
theorem cod_z (k n : Nat) : cod (zT k n) = List.replicate (k - (dgs n).length) 48 ++ dgs n := rfl
theorem z_len {k n : Nat} (hk : 1 ≤ k) (hn : n < 10 ^ k) : (cod (zT k n)).length = k := by
  have := dgs_le hk hn
  rw [cod_z, List.length_append, List.length_replicate]
  omega
end Z
set_option linter.all false
set_option Elab.async false
set_option maxRecDepth 100000
set_option linter.all false
set_option Elab.async false
set_option maxRecDepth 100000
set_option linter.all false
set_option Elab.async false
set_option maxRecDepth 100000
set_option linter.all false
set_option Elab.async false
set_option maxRecDepth 100000
namespace Z
open PySem PySem.Spec PyProof.Rows L2
section
variable {X : Cx} {ea : EA} {Wx : WX} {tg ke ve iter : Expr} {ifs : List Expr} {scope : Scope} {own : List (Str × Nat)} {pos : Pos} {mi : Mo Wk} {t : W → Mo Unit} {l : List Nat} {mt : Mo Bool} {mk mv : Mo RV}
structure BlkD2 (X : Cx) (ea : EA) (tg ke ve : Expr) (ifs : List Expr) (tg1 i1 : Expr) (f1 : List Expr) (scope : Scope) (own : List (Str × Nat)) (v0 v1 : List Nat) (t : W → Mo Unit) (l : List Nat) (mt : Mo Bool) (mi1 : Mo Wk) (t1 : W → Mo Unit) (l1 : List Nat) (mt1 : Mo Bool) (mk mv : Mo RV) : Prop where
  ok : BlkOk X.N X.env.scope scope own
  ne : ∀ w s r s', t w s = some (r, s') → r = .ok ()
  ne1 : ∀ w s r s', t1 w s = some (r, s') → r = .ok ()
  sub : ∀ i ∈ l, i ∈ v0
  sub1 : ∀ i ∈ l1, i ∈ v1
  hv : (∀ i ∈ v0, i ∈ own.map (·.2)) ∧ (∀ i ∈ v1 ++ [], i ∈ own.map (·.2)) ∧ (∀ i ∈ v1 ++ [], i ∉ v0)
  tg : ∀ (s : Shared) (H : Hp) (C : Addr) (cl : List (Str × Addr)) (fp : List Addr), Peg (X.blk s H scope (compEnvC scope cl C X.env) fp) ea tg t l
  ts : ∀ (s : Shared) (H : Hp) (C : Addr) (cl : List (Str × Addr)) (fp : List Addr), Pets (X.blk s H scope (compEnvC scope cl C X.env) fp) ea W0 ifs mt
  it1 : ∀ (s : Shared) (H : Hp) (C : Addr) (cl : List (Str × Addr)) (fp : List Addr), Pei (X.blk s H scope (compEnvC scope cl C X.env) fp) ea W0 tg1 i1 mi1
  tg1 : ∀ (s : Shared) (H : Hp) (C : Addr) (cl : List (Str × Addr)) (fp : List Addr), Peg (X.blk s H scope (compEnvC scope cl C X.env) fp) ea tg1 t1 l1
  ts1 : ∀ (s : Shared) (H : Hp) (C : Addr) (cl : List (Str × Addr)) (fp : List Addr), Pets (X.blk s H scope (compEnvC scope cl C X.env) fp) ea W0 f1 mt1
  ky : ∀ (s : Shared) (H : Hp) (C : Addr) (cl : List (Str × Addr)) (fp : List Addr), Pee (X.blk s H scope (compEnvC scope cl C X.env) fp) ea W0 ke mk
  vl : ∀ (s : Shared) (H : Hp) (C : Addr) (cl : List (Str × Addr)) (fp : List Addr), Pee (X.blk s H scope (compEnvC scope cl C X.env) fp) ea W0 ve mv
end
end Z
set_option linter.all false
set_option Elab.async false
set_option maxRecDepth 100000
set_option linter.all false
set_option Elab.async false
set_option maxRecDepth 100000
namespace Z
open PySem PySem.Spec PyProof.Rows L2
def fAddA1 : W → W → Option OR
  | .int i, .int j => some (.imm (.int (i + j)))
  | _, _ => none
@[simp] theorem fAddA1_e {i j : Int} : fAddA1 (.int i) (.int j) = some (.imm (.int (i + j))) := rfl
theorem ipm_add {X : Cx} : IpM X .Add fAddA1 := by
  refine ⟨_, ip_add, fun io M H x y vx vy z Q rx ry e q => ?_⟩
  unfold fAddA1 at e
  split at e
  · cases e
    have := rx.int
    subst this
    have := ry.int
    subst this
    exact ⟨_, _, rfl, rfl, q _ (.int _)⟩
  · cases e
end Z
set_option linter.all false
set_option Elab.async false
set_option maxRecDepth 100000
set_option linter.all false
set_option Elab.async false
set_option maxRecDepth 100000
namespace Z
open PySem PySem.Spec PySem.Calls PyProof.Rows L2
def DiffH (ks : List (List Key)) : Prop := ∀ w : World, (ks.map fun k => reduceHash (Builtin.Tuple.tupleHashOf (k.map (keyH w)))).Nodup
noncomputable instance (ks : List (List Key)) : Decidable (DiffH ks) := Classical.propDecidable _
end Z
set_option linter.all false
set_option Elab.async false
set_option maxRecDepth 100000
namespace Z
open PySem PySem.Spec PyProof.Rows L2
theorem hu2 {n : Nat} (h : n + 150 < cLine) : n + 2 < cLine := by omega
end Z
set_option linter.all false
set_option Elab.async false
set_option maxRecDepth 100000
set_option linter.all false
set_option Elab.async false
set_option maxRecDepth 100000
namespace Z
open PySem PySem.Spec PyProof.Rows L2
def prV : List V → List (V × V)
  | x :: y :: r => (x, y) :: prV r
  | _ => []
structure Pep (X : Cx) (ea : EA) (pos : Pos) (keys : List (Option Expr)) (values : List Expr) (ms : Mo (List RV)) : Prop where
  ex : ∃ (trs : List (TE × TE)) (ta : TA), PPs X pos keys values trs ∧ RefA X.K X.mg ea W0 ta ms ∧ ∀ (σ : L2.St) (H : Hp) (Q : List (V × V) → Hp → Prop), tPairs trs σ H Q = ta σ H fun vs H' => Q (prV vs) H'
end Z
set_option linter.all false
set_option Elab.async false
set_option maxRecDepth 100000
set_option linter.all false
set_option Elab.async false
set_option maxRecDepth 100000
set_option linter.all false
set_option Elab.async false
set_option maxRecDepth 100000
namespace Z
open PySem PySem.Spec PyProof.Rows L2
structure SupF (X : Cx) (D : Addr) : Prop where
  ks : X.env.kindOf "super" = some .globalImplicit
  kc : X.env.kindOf "__class__" = some .free
  ka : X.env.scope.names.lookup ("self" : Str) = some .local
  n0 : X.N[0]? = some ("self" : Str)
  fn : ∃ f oc od fd osl ar, X.env.func = some f ∧ X.K.lookup f = some ⟨oc, od, .func fd, osl⟩ ∧ (fd.params.posonlyargs ++ fd.params.args).head? = some ar ∧ ar.arg = ("self" : Str)
  code : ∃ cda ccl cdd vs ccs file tf, X.env.code = .ref cda ∧ X.K.lookup cda = some ⟨ccl, cdd, .fields vs, ccs⟩ ∧ vs[2]? = some (.str file tf) ∧ ((X.prog.main.file : Str) == file) = true
  top : (X.prog.main.scope.names.lookup ("super" : Str)).isSome = false
  mg : X.mg "super" = none
  cell : ∃ cc cl cld csl, X.env.cells.lookup ("__class__" : Str) = some cc ∧ X.K.lookup cc = some ⟨cl, cld, .cell (some (.ref D)), csl⟩
structure SupC (K : PySem.W.Frag) (C D g : Addr) (m : Str) : Prop where
  d : ∃ cdD, PySem.W.clsIn K D = some cdD
  sub : PySem.W.mroIn K C (.ref D) = some true
  any : PySem.W.nsIn K cStatics "thirdparty.any" = some none
  at_ : PySem.W.ks_superIn K C D m = some (some (.ref g))
  ty : PySem.W.typeIn K (.ref g) = some (.type "function")
  fi : PySem.W.fnIn K g = true
  nm : (m == ("__class__" : Str)) = false
end Z
set_option linter.all false
set_option Elab.async false
set_option maxRecDepth 100000
namespace Z
open PySem PySem.Spec PyProof.Rows L2
structure ScS (N P : List Str) (sc : Scope) : Prop where
  kind : sc.kind = .function
  co : sc.isCoroutine = false
  gen : sc.isGenerator = false
  nd : N.Nodup
  pre : N.take P.length = P
  par : ∀ x ∈ P, sc.names.lookup x = some .local
  nocell : ∀ y ∈ sc.names, y.2 ≠ .cell
  free : ∀ y ∈ sc.names, y.2 = .free → y.1 = ("__class__" : Str)
end Z
set_option linter.all false
set_option Elab.async false
set_option maxRecDepth 100000
set_option linter.all false
set_option Elab.async false
set_option maxRecDepth 100000
namespace Z
open PySem PySem.Spec PyProof.Rows L2
structure SupK (P : Program) (K : PySem.W.Frag) (mg : Str → Option Value) (x qual : Str) (st : Stmt) (f C g : Addr) (fd : FuncData) (m : Str) : Prop where
  ex : ∃ (cc : Addr) (cl : Value) (cld : Option Addr) (csl : Array (Option Value)) (oc : Value) (od an : Option Addr) (dV kV doc pm ct : Value) (cda : Addr) (osl : Array (Option Value)) (ccl : Value) (cdd : Option Addr) (vs : Array Value) (ccs : Array (Option Value)) (file : Str) (tf : Tok),
    fd = PySem.W.ksFn x qual (defArgs st) (defBody st) (defScope st) dV kV doc pm an (.ref cda) ct cc ∧ K.lookup f = some ⟨oc, od, .func fd, osl⟩ ∧ PySem.W.codeIn K (.ref cda) qual = true ∧ K.lookup cc = some ⟨cl, cld, .cell (some (.ref C)), csl⟩ ∧
      K.lookup cda = some ⟨ccl, cdd, .fields vs, ccs⟩ ∧ vs[2]? = some (.str file tf) ∧ ((P.main.file : Str) == file) = true
  top : (P.main.scope.names.lookup ("super" : Str)).isSome = false
  mgs : mg "super" = none
  sc : SupC K C C g m
structure SupN (N : List Str) (st : Stmt) : Prop where
  ks : (defScope st).names.lookup ("super" : Str) = some .globalImplicit
  kc : (defScope st).names.lookup ("__class__" : Str) = some .free
  ka : (defScope st).names.lookup ("self" : Str) = some .local
  n0 : N[0]? = some ("self" : Str)
  hd : ∃ ar, ((defArgs st).posonlyargs ++ (defArgs st).args).head? = some ar ∧ ar.arg = ("self" : Str)
end Z
set_option linter.all false
set_option Elab.async false
set_option maxRecDepth 100000
set_option linter.all false
set_option Elab.async false
set_option maxRecDepth 100000
namespace Z
open PySem PySem.Spec PyProof.Rows L2
def refsZ (o : Obj) : List Addr := match o.data with
  | .seq its _ => its.toList.flatMap He.refV
  | .dict es _ => es.toList.flatMap fun e => He.refV e.val
  | .func fd => He.refV fd.code ++ (He.refV fd.defaults ++ fd.closure.map (·.2))
  | .cls cd => [cd.ns]
  | .fields vs => (match o.cls with
    | .type c => if c = "property" ∨ c = "classmethod" then vs.toList.flatMap He.refV else []
    | _ => [])
  | _ => []
def refsG (g : Addr → Option Obj) (a : Addr) : List Addr := match g a with
  | some o => refsZ o
  | none => []
def newZ : List Addr → Nat → List Addr × Nat
  | [], s => ([], s)
  | a :: r, s => bif s.testBit a then newZ r s else match newZ r (s ||| 2 ^ a) with
    | (l, s') => (a :: l, s')
def bfsZ (g : Addr → Option Obj) : Nat → List Addr → Nat → List Addr
  | 0, fr, _ => fr
  | n + 1, fr, s => match newZ (fr.flatMap (refsG g)) s with
    | (l, s') => fr ++ bfsZ g n l s'
def asZ (g : Addr → Option Obj) (n : Nat) : List Addr := bfsZ g n [mainGlobals, cStatics] (2 ^ mainGlobals ||| 2 ^ cStatics)
theorem ck_at {l : List Bool} (h : (l.all fun b => b) = true) (i : Nat) {b : Bool} (e : l[i]? = some b) : b = true := List.all_eq_true.mp h b (List.mem_of_getElem? e)
theorem ck_d {l : List Bool} {p : Prop} [Decidable p] (h : (l.all fun b => b) = true) (i : Nat) (e : l[i]? = some (decide p)) : p := of_decide_eq_true (ck_at h i e)
def intB (K : PySem.W.Frag) (x : Str) (i : Int) : Bool := match PySem.W.nsIn K mainGlobals x with
  | some (some (.int j _)) => decide (j = i)
  | _ => false
theorem intB_ok {K : PySem.W.Frag} {x : Str} {i : Int} (h : intB K x i = true) : ∃ tk, PySem.W.nsIn K mainGlobals x = some (some (.int i tk)) := by
  unfold intB at h
  split at h
  · rename_i j tk e
    have := of_decide_eq_true h
    subst this
    exact ⟨tk, e⟩
  · cases h
def excB (K : PySem.W.Frag) (C : Addr) (bm : List Value) (nid : String) : Bool := match K.lookup C with
  | some ⟨.type t, _, .cls cd, sl⟩ => decide (t = "type") && (decide (cd.mro = .ref C :: bm) && (cd.hasDict && (!cd.hasDel && match sl.toList with
    | [_, _, _, _, some (.builtin b), _] => decide (b = nid)
    | _ => false)))
  | _ => false
theorem excB_ok {K : PySem.W.Frag} {C : Addr} {bm : List Value} {nid : String} (h : excB K C bm nid = true) : ∃ nm qq N bs sn sb ab co dd m0 m1 m2 m3 m5, K.lookup C = some (excClassObj nm qq C N bs bm true sn sb ab co dd m0 m1 m2 m3 m5 nid) := by
  unfold excB at h
  split at h
  · rename_i t dd cd sl e
    obtain ⟨h1, h⟩ := He.ba h
    obtain ⟨h2, h⟩ := He.ba h
    obtain ⟨h3, h⟩ := He.ba h
    obtain ⟨h4, h⟩ := He.ba h
    have h1 := of_decide_eq_true h1
    have h2 := of_decide_eq_true h2
    split at h
    · rename_i m0 m1 m2 m3 b m5 es
      have h5 := of_decide_eq_true h
      obtain ⟨nm, bs, mro, N, qq, hd, sn, sb, ab, co, hdel⟩ := cd
      simp only at h2 h3 h4
      have h4' : hdel = false := by simpa using h4
      subst h1 h2 h3 h4' h5
      have esl : sl = #[m0, m1, m2, m3, some (.builtin b), m5] := by
        apply Array.ext'
        rw [es]
      subst esl
      exact ⟨nm, qq, N, bs, sn, sb, ab, co, dd, m0, m1, m2, m3, m5, e⟩
    · cases h
  · cases h
abbrev FnZ : Type := Option (Str × Str × Arguments × FuncBody × Scope)
def fnO (K : PySem.W.Frag) (f : Addr) : FnZ := match K.lookup f with
  | some ⟨_, _, .func fd, _⟩ => some (fd.name, fd.qualname, fd.params, fd.body, fd.scope)
  | _ => none
def fnB (K : PySem.W.Frag) (f : Addr) (q : Str) : Bool := match K.lookup f with
  | some ⟨_, _, .func fd, _⟩ => Nat.beq fd.globals mainGlobals && (fd.closure.isEmpty && ((match fd.defaults with
    | .none => true
    | _ => false) && (Nat.beq fd.builtins builtinsNs && PySem.W.codeIn K fd.code q)))
  | _ => false
theorem fn_okZ {K : PySem.W.Frag} {f : Addr} {n q : Str} {ps : Arguments} {b : List Stmt} {sc : Scope} (e : fnO K f = some (n, q, ps, .stmts b, sc)) (c : fnB K f q = true) :
    ∃ oc od osl kV doc pm an cdv ct, K.lookup f = some ⟨oc, od, .func (PySem.W.fnOf n q ps b sc .none kV doc pm an cdv ct), osl⟩ ∧ PySem.W.codeIn K cdv q = true := by
  unfold fnO at e
  unfold fnB at c
  split at c
  · rename_i oc od fd osl el
    rw [el] at e
    obtain ⟨n1, n2, n3, n4, n5, n6, n7, n8, n9, n10, n11, n12, n13, n14, n15⟩ := fd
    have e2 : (some (n1, n2, n3, n4, n5) : FnZ) = some (n, q, ps, .stmts b, sc) := e
    simp only [Option.some.injEq, Prod.mk.injEq] at e2
    obtain ⟨h1, h2, h3, h4, h5⟩ := e2
    obtain ⟨c1, c⟩ := He.ba c
    obtain ⟨c2, c⟩ := He.ba c
    obtain ⟨c3, c⟩ := He.ba c
    obtain ⟨c4, c5⟩ := He.ba c
    have g1 : n6 = mainGlobals := Nat.eq_of_beq_eq_true c1
    have g2 : n7 = [] := by
      have : n7.isEmpty = true := c2
      simpa using this
    have g4 : n15 = builtinsNs := Nat.eq_of_beq_eq_true c4
    have g3 : n8 = .none := by cases n8 <;> first | rfl | cases c3
    clear c1 c2 c3 c4
    subst h1 h2 h3 h4 h5 g1 g2 g3 g4
    exact ⟨oc, od, osl, n9, n10, n11, n12, n13, n14, el, c5⟩
  · cases c
def obsZ (n : Nat) (chk : PySem.W.Frag → Bool) (fn : List (PySem.W.Frag → Addr)) (g : Addr → Option Obj) : Bool × List FnZ := (chk (He.frG g (asZ g n)), fn.map fun f => fnO (He.frG g (asZ g n)) (f (He.frG g (asZ g n))))
def SaysZ (chk : PySem.W.Frag → Bool) (fn : List (PySem.W.Frag → Addr)) (vs : List FnZ) (K : PySem.W.Frag) : Prop := chk K = true ∧ (fn.map fun f => fnO K (f K)) = vs
def hookZ (n : Nat) (chk : PySem.W.Frag → Bool) (fn : List (PySem.W.Frag → Addr)) (vs : List FnZ) : PySem.W.Hook where
  α := Bool × List FnZ
  obs := fun s => obsZ n chk fn s.heap.get?
  val := fun _ => (true, vs)
  says := fun _ h => ∃ K : PySem.W.Frag, K.In h ∧ SaysZ chk fn vs K
  of := fun _ _ e => ⟨_, He.frG_in, congrArg (·.1) e, congrArg (·.2) e⟩
  keeps := fun _ _ _ ⟨K, hK, c⟩ k => ⟨K, PySem.W.Frag.In.keeps hK k, c⟩
theorem obsZ_eq {n : Nat} {chk : PySem.W.Frag → Bool} {fn : List (PySem.W.Frag → Addr)} {vs : List FnZ} {g : Addr → Option Obj} {s : Shared} (h : ∀ a, g a = s.heap.get? a) : obsZ n chk fn g = (hookZ n chk fn vs).obs s := by
  have e : g = s.heap.get? := funext h
  rw [e]
  rfl
theorem SaysZ.fn_ {chk : PySem.W.Frag → Bool} {fn : List (PySem.W.Frag → Addr)} {vs : List FnZ} {K : PySem.W.Frag} (c : SaysZ chk fn vs K) (i : Nat) {f : PySem.W.Frag → Addr} {v : FnZ} (h : fn[i]? = some f) (hv : vs[i]? = some v) : fnO K (f K) = v := by
  have e := congrArg (fun l => l[i]?) c.2
  simp only [List.getElem?_map, h, hv, Option.map_some] at e
  exact Option.some.inj e
theorem walkE {l : PySem.W.OpenLaw} {q : Program} {loose : List Str} {XP : (Str → Option Value) → Heap → Prop} {YP : World → Heap → Prop} {d : DefRec} {k : Nat} {x : Str} (hn : l.most = some 63) (hdf : d.params.defaults = []) (hr : Room k callerA)
    (F : ∀ (w : World) (mg : Str → Option Value) (fa : Addr) (h : Heap), YP w h → h.Ns mainGlobals mg → mg d.name = some (.ref fa) →
      ∃ K : PySem.W.Frag, K.In h ∧ ∃ fd : FuncData, (∀ (s : Shared) (u : Value), BindsTo s fd ⟨[u], []⟩ [(x, u)]) ∧ ∀ base : Heap, K.In base → base.Ns mainGlobals mg → FnOk l.prog w K mg base (L2.CX l.prog w) k fa fd [x] (spLaw K)) :
    PySem.W.WalkO q loose XP YP l.row.toRowW d [] (fun f vs => PySem.call f vs) := by
  refine Att.attach_callB hn hdf fun w s₀ s₁ mg mb fa o pm cd doc a vs ns G Y ho hd hcd hmg hobj hints hlen hbits hg => ?_
  obtain ⟨K, KX, fd, hb, hF⟩ := F w mg fa _ Y G.T.g hmg
  exact law_call KX G.T.g G.T.b G.T.builtins G.T.nolimit hg hobj hints (Nat.le_trans hlen (by decide)) hr hF hb (fun H hO hS => ⟨a, ns, rfl, hS, hlen, hbits, fun _ => rfl⟩) fun H e s' z => by
    obtain ⟨_, _, _, _, _, _, _, _, _, _, _, _, hE⟩ := z
    exact hE
end Z
set_option linter.all false
set_option Elab.async false
set_option maxRecDepth 100000
set_option linter.all false
set_option Elab.async false
set_option maxRecDepth 100000
namespace Z
open PySem PySem.Spec PyProof.Rows L2
inductive GF where
  | nx
  | bk
  | ct
abbrev Gm := List W → S → Option (Except Ex (GF × List W) × S)
def gfD (D : GEnds) : GF → List V → L2.St → Hp → Prop
  | .nx => D.nx
  | .bk => D.bk
  | .ct => D.ct
section
variable {K : PySem.W.Frag} {mg : Str → Option Value} {ea : EA} {io io' : List Addr} {Fr : Addr → Prop} {s s' s1 : S} {σ σ' : L2.St} {H H' H1 : Hp} {Wx : WX}
def RefN (K : PySem.W.Frag) (mg : Str → Option Value) (ea : EA) (Wx : WX) (t : TGn) (m : Gm) : Prop := ∀ (σ : L2.St) (H : Hp) (io : List Addr) (Fr : Addr → Prop) (s : S), Sim K mg ea io Fr s σ H → ∀ (ws : List W) (ys : List V), Rws K mg io (Ms io Fr s σ) H ws ys → ∀ r s', m ws s = some (r, s') → ∀ D : GEnds,
  (∀ f ws', r = .ok (f, ws') → ∀ σ' H' io' ys', PostS K mg ea io Fr s σ H s' σ' io' H' → Rws K mg io' (Ms io' Fr s' σ') H' ws' ys' → gfD D f ys' σ' H') →
  (∀ x, r = .error x → ∀ cls d σ' H' io', PostX K mg ea io Fr s σ H s' σ' io' H' x cls d → Wx cls d σ' H') → t D ys σ H
end
end Z
set_option linter.all false
set_option Elab.async false
set_option maxRecDepth 100000
namespace Z
open PySem PySem.Spec PyProof.Rows L2
def fuelZ : Nat := 100000
theorem fuel_ge : 99999 < fuelZ := by decide
noncomputable def whileM (c : Mo Bool) (b : Mo Fl) : Nat → Mo Fl
  | 0 => stk
  | n + 1 => bnd c fun x => if x = true then (bnd b fun f => match f with
    | .nx => whileM c b n
    | .ct => whileM c b n
    | .bk => ret .nx
    | .rt v => ret (.rt v)) else ret .nx
noncomputable def mWhile (c : Mo Bool) (b : Mo Fl) : Mo Fl := whileM c b fuelZ
section
variable {K : PySem.W.Frag} {mg : Str → Option Value} {ea : EA} {Wx : WX}
theorem ref_while {tc : TT} {tb : TS} {mc : Mo Bool} {mb : Mo Fl} (hc : RefT K mg ea Wx tc mc) (hb : RefS K mg ea Wx tb mb) : RefS K mg ea Wx (tWhile tc tb) (mWhile mc mb) := by
  intro σ H io Fr s S0 r0 s' e D hnx hbk hct hrt hex
  refine ⟨fun m σ2 H2 => ∃ io2 s2, Sim K mg ea io2 Fr s2 σ2 H2 ∧ Stp io (Ms io Fr s σ) Fr H io2 (Ms io2 Fr s2 σ2) H2 ∧ whileM mc mb m s2 = some (r0, s'), ⟨fuelZ, io, s, S0, .refl, e⟩, ?_⟩
  rintro m σ2 H2 ⟨io2, s2, S2, T2, e2⟩
  cases m with
  | zero => cases e2
  | succ m =>
    rcases bnd_some e2 with ⟨x, e3, rfl⟩ | ⟨b, s3, e3, e4⟩
    · exact hc σ2 H2 io2 Fr s2 S2 _ _ e3 _ (fun _ q => by cases q) fun x' q cls d H' io' px => by
        cases q
        exact hex _ rfl cls d σ2 H' io' ⟨px.1, T2.trans px.2.1, px.2.2⟩
    · refine hc σ2 H2 io2 Fr s2 S2 _ _ e3 _ (fun b' q H3 io3 px => ?_) (fun _ q => by cases q)
      cases q
      have T3 := T2.trans px.2
      cases b with
      | false =>
        rw [if_neg Bool.false_ne_true] at e4 ⊢
        cases e4
        exact hnx rfl σ2 H3 io3 ⟨px.1, T3⟩
      | true =>
        rw [if_pos rfl] at e4 ⊢
        refine ⟨fun σ4 H4 => ∃ io4 s4, Sim K mg ea io4 Fr s4 σ4 H4 ∧ Stp io (Ms io Fr s σ) Fr H io4 (Ms io4 Fr s4 σ4) H4 ∧ whileM mc mb m s4 = some (r0, s'), fun σ4 H4 w => ⟨m, Nat.lt_succ_self m, w⟩, ?_⟩
        rcases bnd_some e4 with ⟨x, e5, rfl⟩ | ⟨f, s4, e5, e6⟩
        · exact hb σ2 H3 io3 Fr s3 px.1 _ _ e5 _ (fun q => by cases q) (fun q => by cases q) (fun q => by cases q) (fun _ q => by cases q) fun x' q cls d σ' H' io' p => by
            cases q
            exact hex _ rfl cls d σ' H' io' ⟨p.1, T3.trans p.2.1, p.2.2⟩
        · refine hb σ2 H3 io3 Fr s3 px.1 _ _ e5 _ (fun q σ' H' io' p => ?_) (fun q σ' H' io' p => ?_) (fun q σ' H' io' p => ?_) (fun u q v H' io' p => ?_) fun x' q => by cases q
          · cases q; exact ⟨io', s4, p.1, T3.trans p.2, e6⟩
          · cases q; cases e6; exact hnx rfl σ' H' io' ⟨p.1, T3.trans p.2⟩
          · cases q; exact ⟨io', s4, p.1, T3.trans p.2, e6⟩
          · cases q; cases e6; exact hrt _ rfl v H' io' (p.trans T3)
end
section
variable {X : Cx} {ea : EA} {Wx : WX} {c : Expr} {body : List Stmt} {mc : Mo Bool} {mb : Mo Fl} {pos : Pos}
theorem pes_while (pa : PassesOwn (model X.prog X.w) X.A X.env X.xe) (hc : Pet X ea Wx c mc) (hb : Pess X ea Wx body mb) : Pes X ea Wx (.While c body [] pos) (mWhile mc mb) := by
  obtain ⟨t, q, r⟩ := hc.ex
  obtain ⟨t2, q2, r2⟩ := hb.ex
  exact ⟨_, ps_while pa q q2, ref_while r r2⟩
end
theorem while_at {c : Mo Bool} {b : Mo Fl} (I : S → Prop) (μ : S → Nat) (go : S → Bool) (hc : ∀ s, I s → ∃ s', c s = some (.ok (go s), s') ∧ (go s = false → s' = s) ∧ (go s = true → ∃ s2, b s' = some (.ok .nx, s2) ∧ I s2 ∧ μ s2 < μ s)) :
    ∀ (n : Nat) (s : S), I s → μ s < n → ∃ s', whileM c b n s = some (.ok .nx, s') ∧ I s' ∧ go s' = false := by
  intro n
  induction n with
  | zero => intro s _ h; omega
  | succ n ih =>
    intro s hI hm
    obtain ⟨s', e, h1, h2⟩ := hc s hI
    cases hg : go s with
    | false =>
      obtain rfl := h1 hg
      rw [hg] at e
      refine ⟨s', ?_, hI, hg⟩
      unfold whileM
      rw [bnd_at e, if_neg Bool.false_ne_true]
      rfl
    | true =>
      obtain ⟨s2, e2, I2, m2⟩ := h2 hg
      rw [hg] at e
      obtain ⟨s3, e3, I3, g3⟩ := ih s2 I2 (by omega)
      refine ⟨s3, ?_, I3, g3⟩
      unfold whileM
      rw [bnd_at e, if_pos rfl, bnd_at e2]
      exact e3
theorem mWhile_at {c : Mo Bool} {b : Mo Fl} {s : S} (I : S → Prop) (μ : S → Nat) (go : S → Bool) (hI : I s) (hm : μ s < fuelZ) (hc : ∀ s, I s → ∃ s', c s = some (.ok (go s), s') ∧ (go s = false → s' = s) ∧ (go s = true → ∃ s2, b s' = some (.ok .nx, s2) ∧ I s2 ∧ μ s2 < μ s)) :
    ∃ s', mWhile c b s = some (.ok .nx, s') ∧ I s' ∧ go s' = false := while_at I μ go hc fuelZ s hI hm
def fOrA1 : W → W → Option OR
  | .int i, .int j => some (.imm (.int (Builtin.bitOr i j)))
  | _, _ => none
@[simp] theorem fOrA1_e {i j : Int} : fOrA1 (.int i) (.int j) = some (.imm (.int (Builtin.bitOr i j))) := rfl
theorem ipm_or {X : Cx} : IpM X .BitOr fOrA1 := by
  refine ⟨_, iop_or, fun io M H x y vx vy z Q rx ry e q => ?_⟩
  unfold fOrA1 at e
  split at e
  · cases e
    have := rx.int
    subst this
    have := ry.int
    subst this
    exact ⟨_, _, rfl, rfl, q _ (.int _)⟩
  · cases e
end Z
set_option linter.all false
set_option Elab.async false
set_option maxRecDepth 100000
namespace Z
open PySem PySem.Spec PyProof.Rows L2 GenW
structure Pgs (X : Cx) (ea : EA) (Wx : WX) (st : Stmt) (m : Gm) : Prop where
  ex : ∃ t, GS X st t ∧ RefN X.K X.mg ea Wx t m
structure Pgss (X : Cx) (ea : EA) (Wx : WX) (st : List Stmt) (m : Gm) : Prop where
  ex : ∃ t, GSs X st t ∧ RefN X.K X.mg ea Wx t m
abbrev Gn := List W → List Cell → Option (Except Ex (List W) × List Cell)
def spGM (K : PySem.W.Frag) (mg : Str → Option Value) (n : Nat) (m : Gn) : SpG := fun vs H Q E => vs.length = n ∧ ∃ io Fr G ws r G', GSim K mg io Fr G H ∧ Rws K mg io (Mu io Fr) H ws vs ∧ m ws G = some (r, G') ∧
  (∀ out, r = .ok out → ∀ ys H' io', GSim K mg io' Fr G' H' → Stp io (Mu io Fr) Fr H io' (Mu io' Fr) H' → Rws K mg io' (Mu io' Fr) H' out ys → Q ys H') ∧ (∀ x, r = .error x → ∀ cls d H' io', PostXF K mg io (Mu io Fr) Fr H G' io' H' x cls d → E cls d H')
structure GnM (P : Program) (w : World) (K : PySem.W.Frag) (mg : Str → Option Value) (base : Heap) (k : Nat) (f : Addr) (fd : FuncData) (ps : List Str) (m : Gn) : Prop where
  ok : GFn P w K mg base k f fd ps (spGM K mg ps.length m)
section
variable {P : Program} {w : World} {K : PySem.W.Frag} {mg : Str → Option Value} {base : Heap}
theorem GFn.mono {k k' : Nat} {f : Addr} {fd : FuncData} {ps : List Str} {sp : SpG} (F : GFn P w K mg base k f fd ps sp) (h : k ≤ k') : GFn P w K mg base k' f fd ps sp := by
  refine ⟨F.len, fun A outer s H args us vs Q E hr e0 hb r hsp => ?_⟩
  refine codeAny_mono (F.run A outer s H args us vs Q E (hr.mono h) e0 hb r hsp) fun r s' hq => ?_
  cases r with
  | error e => exact hq
  | ok fl =>
    cases fl with
    | ret u =>
      obtain ⟨a, g, c, q1, q2, q3, q4, q5, q6, q7, q8, q9, q10⟩ := hq
      exact ⟨a, g, c, q1, q2, q3, q4, q5, q6, q7, q8, q9, fun A S s2 hr => q10 A S s2 (hr.mono h)⟩
    | next => exact hq
    | brk => exact hq
    | cont => exact hq
end
end Z
set_option linter.all false
set_option Elab.async false
set_option maxRecDepth 100000
set_option linter.all false
set_option Elab.async false
set_option maxRecDepth 100000
namespace Z
open PySem PySem.Spec PyProof.Rows L2
structure Psx (X : Cx) (ea : EA) (Wx : WX) (body sts : List Stmt) (m : Mo Fl) : Prop where
  ex : ∃ t : TS, (∀ (pins : List (Addr × Obj)) (s : Shared) (σ : L2.St) (H : Hp) (D : Ends), Inv X pins σ H s → t D σ H → _root_.PySem.wpAt (model X.prog X.w) X.A (.func body X.env) (execs sts X.env) (SP X pins D) X.xe s) ∧ RefS X.K X.mg ea Wx t m
end Z
set_option linter.all false
set_option Elab.async false
set_option maxRecDepth 100000
set_option linter.all false
set_option Elab.async false
set_option maxRecDepth 100000
set_option maxHeartbeats 3200000
namespace Z
open PySem PySem.Spec PyProof.Rows L2
def dnW (i : Int) (n : Nat) : List W := (List.range n).map fun (k : Nat) => W.int (i - (k : Int))
section
variable {K : PySem.W.Frag} {mg : Str → Option Value} {ea : EA} {Wx : WX} {io : List Addr} {M : Addr → Prop} {H : Hp}
theorem itg_dn {i : Int} {n : Nat} : ItG K mg (Itc i (-1) n) ⟨dnW i n, none⟩ io M H where
  go := fun _ _ _ _ _ j hj => (show j < n by simpa [dnW] using hj)
  stop := fun _ _ _ _ _ => (show n ≤ (dnW i n).length by simp [dnW])
  yld := fun io' M' H' P _ _ j x H2 y w hw => by
    obtain ⟨y1, rfl⟩ := y
    have hj := get_lt hw
    simp only [dnW, List.length_map, List.length_range] at hj
    simp only [dnW, List.getElem?_map, List.getElem?_range hj, Option.map_some, Option.some.injEq] at hw
    subst hw
    refine .inl ⟨y1, ?_⟩
    rw [show i + (j : Int) * (-1) = i - (j : Int) by omega]
    exact .int _
noncomputable def mRng3 (ms : Mo (List RV)) : Mo Wk := bnd ms fun xs => bnd (lookAll xs) fun ws => match ws with
  | [.int i, .int j, .int (-1)] => if Rk i ∧ Rk j then ret ⟨dnW i (i - j).toNat, none⟩ else stk
  | _ => stk
theorem p3 {α β : Type} {F : α → β → Prop} {x x' x'' : α} {ys : List β} (h : Paired F [x, x', x''] ys) : ∃ y y' y'', ys = [y, y', y''] ∧ F x y ∧ F x' y' ∧ F x'' y'' := by
  cases h with
  | cons h t =>
    obtain ⟨y', y'', rfl, h', h''⟩ := p2 t
    exact ⟨_, _, _, rfl, h, h', h''⟩
theorem ref_rng3 {ta : TA} {ms : Mo (List RV)} (h : RefA K mg ea Wx ta ms) : RefI K mg ea Wx (iRng3 ta) (mRng3 ms) := by
  intro σ H io Fr s S0 r0 s' e R hok hex
  refine arg2 h S0 e hex fun xs vs s1 H1 io1 e2 px R1 => ?_
  rcases bnd_some e2 with ⟨x, e3, rfl⟩ | ⟨ws, s2, e3, e4⟩
  · obtain ⟨_, _, q, _⟩ := lookAll_ok px.1 R1 e3
    cases q
  · obtain ⟨rfl, ws', q, r2⟩ := lookAll_ok px.1 R1 e3
    cases q
    split at e4
    · split at e4
      · rename_i hz
        cases e4
        obtain ⟨v, v', v'', rfl, rv, rv', rv''⟩ := p3 r2
        obtain rfl := rv.int
        obtain rfl := rv'.int
        obtain rfl := rv''.int
        exact ⟨_, _, _, _, rfl, RgC.neg hz.1.1 hz.1.2 hz.2.1 hz.2.2, hok _ rfl _ _ _ px itg_dn⟩
      · cases e4
    · cases e4
def mRevL (m : Mo RV) : Mo RV := bnd m fun x => bnd (look (settle x)) fun w => match w with
  | .lst ws => ret (.own (.lst ws.reverse))
  | _ => stk
theorem Rws.rev {ws : List W} {vs : List V} (h : Rws K mg io M H ws vs) : Rws K mg io M H ws.reverse vs.reverse := by
  refine ⟨by simp [h.1], fun j w v hw hv => ?_⟩
  have hj : j < ws.length := by simpa using get_lt hw
  have hl := h.1
  rw [List.getElem?_reverse hj] at hw
  rw [List.getElem?_reverse (by omega)] at hv
  rw [← hl] at hv
  exact h.2 _ w v hw hv
theorem ref_revL {te : TE} {m : Mo RV} (h : RefE K mg ea Wx te m) : RefE K mg ea Wx (tRevL K te) (mRevL m) := by
  intro σ H io Fr s S0 r0 s' e Q hok hex
  refine one2 h S0 e hex fun x vx s1 H1 io1 e2 px => ?_
  obtain ⟨S1, T1, R1⟩ := px.settled
  rcases bnd_some e2 with ⟨z, e3, _⟩ | ⟨w, s2, e3, e4⟩
  · obtain ⟨_, _, q, _⟩ := look_ok S1 R1 e3
    cases q
  obtain ⟨rfl, w', q, nx⟩ := look_ok S1 R1 e3
  cases q
  split at e4
  · rename_i ws
    cases e4
    obtain ⟨a, vs, rfl, ha, rr⟩ := nx.lst
    have := OQ.post (z := .newl ws.reverse) S1 T1 fun v H3 io3 q => hok _ rfl v H3 io3 q
    exact ⟨a, vs, rfl, SqL.of ha, fun p hp => this p _ hp rr.rev⟩
  · cases e4
def ddN (ns : List Int) : Nat := (firstMet (fun i => ns.getD i 0) ns.length).length
def tLenSetT (K : PySem.W.Frag) (ta : TE) : TE := fun σ H Q => ta σ H fun x H1 => ∃ (t : Addr) (ns : List Int), x = V.ref t ∧ SqT K H1 t (ns.map V.int) ∧ ns.length ≤ 60 ∧ Q (.int (ddN ns : Nat)) H1
def ddW : W → Option Nat
  | .tup ws => match intsOf ws with
    | some ns => if ns.length ≤ 60 then some (ddN ns) else none
    | none => none
  | _ => none
def mLenSetT (m : Mo RV) : Mo RV := bnd m fun x => bnd (look (settle x)) fun w => match ddW w with
  | some k => ret (.val (.int (k : Nat)))
  | none => stk
theorem intsOf_vals {ws : List W} {vs : List V} {ns : List Int} (e : intsOf ws = some ns) (h : Rws K mg io M H ws vs) : vs = ns.map V.int := by
  induction ws generalizing vs ns with
  | nil =>
    cases e
    exact h.nil_inv
  | cons w ws ih =>
    obtain ⟨v, r, rfl, h1, h2⟩ := h.cons_inv
    cases w with
    | int i =>
      unfold intsOf at e
      obtain ⟨ms, e1, rfl⟩ := Option.map_eq_some_iff.mp e
      rw [ih e1 h2, List.map_cons]
      cases h1
      rfl
    | _ => cases e
theorem ref_lenSetT {te : TE} {m : Mo RV} (h : RefE K mg ea Wx te m) : RefE K mg ea Wx (tLenSetT K te) (mLenSetT m) := by
  intro σ H io Fr s S0 r0 s' e Q hok hex
  refine one2 h S0 e hex fun x vx s1 H1 io1 e2 px => ?_
  obtain ⟨S1, T1, R1⟩ := px.settled
  rcases bnd_some e2 with ⟨z, e3, _⟩ | ⟨w, s2, e3, e4⟩
  · obtain ⟨_, _, q, _⟩ := look_ok S1 R1 e3
    cases q
  obtain ⟨rfl, w', q, nx⟩ := look_ok S1 R1 e3
  cases q
  cases hd : ddW w with
  | none =>
    rw [hd] at e4
    cases e4
  | some k =>
    rw [hd] at e4
    cases e4
    cases w with
    | tup ws =>
      unfold ddW at hd
      cases hn : intsOf ws with
      | none =>
        simp only [hn] at hd
        cases hd
      | some ns =>
        simp only [hn] at hd
        by_cases hz : ns.length ≤ 60
        · obtain ⟨a, vs, rfl, ha, rr⟩ := Rn.tup nx
          have ev := intsOf_vals hn rr
          subst ev
          have ek : k = ddN ns := by
            have : (if ns.length ≤ 60 then some (ddN ns) else none) = some k := hd
            rw [if_pos hz] at this
            exact (Option.some.inj this).symm
          subst ek
          exact ⟨a, ns, rfl, ha, hz, hok _ rfl _ _ io1 ⟨S1, T1, .int _⟩⟩
        · have : (if ns.length ≤ 60 then some (ddN ns) else none) = some k := hd
          rw [if_neg hz] at this
          cases this
    | _ => cases hd
end
section
open PySem.W
variable {prog : Program} {w : World} {A : Around} {E : Value → Shared → Prop} {s : Shared}
abbrev newSetO (b : Bool) : Obj := { cls := .type "set", dict := none, data := .set #[] 0 (.fresh 0 0 b) }
theorem set_of_tup {t : Addr} {items : Array Value} {ns : List Int} {Q : Value → Shared → Prop} (hh : A.handled = none) (ht : s.heap.IsTuple t items) (hi : IntsAre items.toList ns) (hb : items.size + 1 < scanBound)
    (hq : ∀ (h2 : Heap) (k : Nat), h2.SetOf (intKind prog w) s.heap.objs.size (fun y => (firstMet (fun i => ns.getD i 0) items.size).any (· == y)) (firstMet (fun i => ns.getD i 0) items.size).length →
      (∀ b o, b < s.heap.objs.size → s.heap.get? b = some o → h2.get? b = some o) → Q (.ref s.heap.objs.size) { s with heap := h2, toks := k }) :
    wpAny (model prog w) A (call (.type "set") [.ref t]) Q E s := by
  have lt : t < s.heap.objs.size := let ⟨o, ho, _⟩ := ht; Heap.lt_size ho
  obtain ⟨mc, ml, mro⟩ := F.called_set.mro
  have g1 := F.called_set.made; have g2 := F.called_set.sub; have g3 := F.called_set.notType; have g4 := F.called_set.canCreate; have g5 := PySem.F.typeCall_set_1 (.ref t)
  refine wpAny_call (codeAny_of_tree ((?_ : wpAny (model prog w) _ (callAny (.type "set") _) _ _ _)))
  refine wpAny_pure ⟨Code.quiet_builtin _ (by decide +kernel), codeAny_builtin F.entry_type_call (Around.under_plain (A := A) (weight_type_call_type "set" [.ref t] []) rfl ▸ ?_)⟩
  repeat (any_goals (first | assumption | wp_step))
  refine codeAny_mono (code_set_new_1 (.ref t) (E := E) (Q₁ := fun y s1 => ∃ b : Bool, y = .ref s.heap.objs.size ∧ s1 = { s with heap := s.heap.push (newSetO b) }) fun b => ⟨b, rfl, rfl⟩) fun r s1 hr => ?_
  cases r with
  | error e => exact hr
  | ok fl =>
    cases fl with
    | ret y =>
      obtain ⟨b, rfl, rfl⟩ := hr
      have hS : (s.heap.push (newSetO b)).get? s.heap.objs.size = some (newSetO b) := Heap.get?_push_size _ rfl
      have hT : Shared.TypeIs { s with heap := s.heap.push (newSetO b) } (.ref s.heap.objs.size) "set" := ⟨_, hS, rfl⟩
      have k1 := F.called_set.init.lookup; have k2 := F.called_set.init.bind (.ref s.heap.objs.size)
      repeat (any_goals (first | assumption | wp_step))
      refine codeAny_mono (codeAny_call_builtin (R := wants (fun v s2 => v = .none ∧ ∃ h2 k, s2 = { s with heap := h2, toks := k } ∧ h2.SetOf (intKind prog w) s.heap.objs.size (fun y => (firstMet (fun i => ns.getD i 0) items.size).any (· == y)) (firstMet (fun i => ns.getD i 0) items.size).length ∧
        (∀ b o, b < s.heap.objs.size → s.heap.get? b = some o → h2.get? b = some o)) E) F.called_set.init.plain F.entry_set_init (check_set_init_1 hT ?_)) fun r2 s2 hr2 => ?_
      · have ht1 : (s.heap.push (newSetO b)).IsTuple t items := let ⟨o, ho, x⟩ := ht; ⟨o, Heap.get?_push_of_some _ ho, x⟩
        have n1 : isSubtype (.type "tuple") (.type "set") = pure false := by rw [isSubtype_type]; kernel_rfl
        have n2 : isSubtype (.type "tuple") (.type "frozenset") = pure false := by rw [isSubtype_type]; kernel_rfl
        have n3 : (Value.type "tuple" == Value.type "dict") = false := by decide
        obtain ⟨⟨oc, od, odat, osl⟩, hot, hoc, nl, hod⟩ := id ht1
        simp only at hoc hod
        subst hoc hod
        unfold Builtin.«set.__init__» noKeywords Builtin.Frozenset.updateFrom
        generalize hPI : pyIter = PI
        wp_walk
        subst hPI
        refine wpAny_pyIter_tuple ht1 (wpAny_bind (wpAny_runValue ?_))
        have e3 : A.in1.in1.in1.handled = none := by simp [hh]
        have sz1 : (s.heap.push (newSetO b)).objs.size = s.heap.objs.size + 1 := Heap.size_push ..
        have neI : t ≠ (s.heap.push (newSetO b)).objs.size := by rw [sz1]; exact Nat.ne_of_lt (Nat.lt_succ_of_lt lt)
        have nSf : s.heap.objs.size ∉ [(s.heap.push (newSetO b)).objs.size, t] := by
          rw [sz1]
          simp only [List.mem_cons, List.not_mem_nil, or_false, not_or]
          exact ⟨Nat.ne_of_lt (Nat.lt_succ_self _), Nat.ne_of_gt lt⟩
        have vals : ∀ (i : Nat) (v : Value), items[i]? = some v → ∃ t, v = .int ((fun i => ns.getD i 0) i) t := fun i v hv => hi.int_at i v (by rw [Array.getElem?_toList]; exact hv)
        refine codeAny_set_update_loopS (Walks.tuple e3 _ t neI items).toS s.heap.objs.size nSf (fun i => ns.getD i 0) vals hb (items.size - 0) 0 _ (by omega) (Nat.zero_le _) ⟨⟨_, Heap.get?_push_size _ rfl, rfl, rfl⟩, ht1.push _⟩ ?hS0 ?hR
        case hS0 =>
          refine SetOf_congr ((setObjOf_fresh (knd := intKind prog w) b).setOf (Heap.get?_push_of_some _ hS) (by unfold scanBound; omega)) (fun _ => rfl) rfl
        case hR =>
          rintro ⟨h2, g2, d2, k2, o2⟩ mv hS2
          obtain rfl : g2 = s.gens := mv.gens
          obtain rfl : d2 = s.drawn := mv.drawn
          obtain rfl : o2 = s.os := mv.os
          show wpAny _ _ _ _ _ _
          refine wpAny_pure ?_
          show wpAny _ _ (PySem.ret Value.none) _ _ _
          refine wpAny_pure ⟨rfl, h2, k2, rfl, hS2, fun c o hc e => ?_⟩
          refine mv.heap c o (fun hm => ?_) (Heap.get?_push_of_some _ (Heap.get?_push_of_some _ e))
          simp only [List.mem_cons, List.not_mem_nil, or_false, sz1] at hm
          rcases hm with q | q
          · exact Nat.ne_of_lt hc q
          · exact Nat.ne_of_lt (Nat.lt_succ_of_lt hc) q
      · cases r2 with
        | error e => exact hr2
        | ok fl2 =>
          cases fl2 with
          | ret v =>
            obtain ⟨rfl, h2, k, rfl, z1, z2⟩ := hr2
            repeat (any_goals (first | assumption | wp_step))
            exact hq _ _ z1 z2
          | next => exact hr2.elim
          | brk => exact hr2.elim
          | cont => exact hr2.elim
    | next => exact hr.elim
    | brk => exact hr.elim
    | cont => exact hr.elim
theorem unpack_star {t : Addr} {items : Array Value} {its : List Value} {u : Value} {Q : List Value → Shared → Prop} (hh : A.handled = none) (ht : s.heap.IsTuple t items) (hi : items.toList = its ++ [u]) (hz : items.size ≤ sizeLine)
    (hq : ∀ (h2 : Heap) (k : Nat), (∀ b o, s.heap.get? b = some o → h2.get? b = some o) → Q [.ref h2.objs.size, u] { s with heap := h2.push { cls := .type "list", data := .seq its.toArray }, toks := k }) :
    wpAny (model prog w) A (unpackItems (.ref t) 2 (some 0)) Q E s := by
  have ht' : IsTup s.heap t items := ht
  have lt : t < s.heap.objs.size := let ⟨o, ho, _⟩ := ht; Heap.lt_size ho
  have nl : items.size = its.length + 1 := by
    have := congrArg List.length hi
    simpa using this
  have hz2 : its.length ≤ sizeLine := by omega
  unfold unpackItems notIterableAtAll
  refine wpAny_bind (wpAny_bind (wpAny_specialOf ht'.typeIs slot_tuple_iter.lookup (wpAny_pure ?_)))
  rw [if_neg (by simp)]
  refine wpAny_bind (wpAny_holding (wpAny_pyIter_tuple ht ?_))
  refine wpAny_bind (wpAny_holding ((wpAny_pure ?_ : wpAny _ _ (draw _ 0) _ _ _)))
  rw [if_neg (by simp)]
  have neI : t ≠ s.heap.objs.size := Nat.ne_of_lt lt
  refine wpAny_bind (wpAny_holding (wpAny_collect_iter (T := "tuple_iterator") (by simp) (Walks.tuple (A := A.in1) hh s.heap.objs.size t neI items).toS (fun i s1 st => st.1.typeIs) ⟨⟨_, Heap.get?_push_size _ rfl, rfl, rfl⟩, ht.push _⟩ (fun b hb => ?_) List.mem_cons_self (fun s2 acc mv ha => ?_) hz))
  · have : (s.heap.push { cls := .type "tuple_iterator", data := .fields #[.ref t, .int 0 0] }).objs.size = s.heap.objs.size + 1 := Heap.size_push ..
    simp only [List.mem_cons, List.not_mem_nil, or_false] at hb
    show b < (s.heap.push _).objs.size
    rw [this]
    rcases hb with q | q
    · rw [q]; exact Nat.lt_succ_self _
    · rw [q]; exact Nat.lt_succ_of_lt lt
  · obtain ⟨h2, g2, d2, k2, o2⟩ := s2
    obtain rfl : g2 = s.gens := mv.gens
    obtain rfl : d2 = s.drawn := mv.drawn
    obtain rfl : o2 = s.os := mv.os
    have ea : acc.toList = its ++ [u] := by
      rw [← hi]
      have : acc = items := by
        refine Array.ext (ha.1) fun i h1 h2 => ?_
        have : items[i]? = some acc[i] := ha.2 i acc[i] (by simp [h1])
        rw [Array.getElem?_eq_getElem h2] at this
        exact (Option.some.inj this).symm
      rw [this]
    rw [ea]
    have l1 : (its ++ [u]).length = its.length + 1 := by simp
    dsimp only
    rw [l1, if_neg (by omega)]
    have tk : (its ++ [u]).take (its.length + 1 - (2 - 1 - 0)) = its := by simp
    have dr : (its ++ [u]).drop (its.length + 1 - (2 - 1 - 0)) = [u] := by simp
    rw [tk, dr]
    have old : ∀ b o, s.heap.get? b = some o → h2.get? b = some o := fun b o e => mv.heap b o (fun hm => by
      have := Heap.lt_size e
      simp only [List.mem_cons, List.not_mem_nil, or_false] at hm
      exact Nat.ne_of_lt this hm) (Heap.get?_push_of_some _ e)
    refine wpAny_bind (wpAny_newObj_type (wpAny_pure (hq h2 k2 old)) (by show its.toArray.size ≤ sizeLine; simpa using hz2))
end
section
variable {X : Cx} {ea : EA} {Wx : WX} {K : PySem.W.Frag} {mg : Str → Option Value}
theorem pe_lenSetT {a : Expr} {ta : TE} {p p2 q pos : Pos} (hc : X.calm = true) (hm : X.mg "len" = none) (hm2 : X.mg "set" = none) (ha : PE X a ta) (hg : Gl X "len" := by rfl) (hg2 : Gl X "set" := by rfl)
    (na : starEach [a] X.env = (false, eval a X.env) :: starEach [] X.env := by rfl) : PE X (.Call (.Name "len" p) [.Call (.Name "set" p2) [a] [] q] [] pos) (tLenSetT X.K ta) := by
  refine ⟨fun pins s σ H Q I h => Call_ (ld_blt I hg hm PySem.boot_len (callWith_builtin1 (args_cons (Call_ (ld_blt I hg2 hm2 boot_set ?_)) rfl) rfl rfl))⟩
  refine callWith_type1 (args_cons (thn (ha.run pins s σ H _ I h) fun v s1 ⟨x, H1, I1, r1, t, ns, ex, hq, hz, q1⟩ => args_nil ?_) na) na rfl
  subst ex
  cases r1
  obtain ⟨its, r, pl, hz2⟩ := I1.tuple hq
  have hl : its.toArray.size = ns.length := by rw [List.size_toArray, ← r.length, List.length_map]
  refine set_of_tup (I1.ok.hd hc) pl (ns := ns) (by simpa using r.ints) (by unfold scanBound; omega) fun h2 k hS hk => args_nil ?_
  rw [hl] at hS
  obtain ⟨o, es, ep, tb, ho, hex, hd, _, _, _, hf, hn⟩ := hS
  have I2 : Inv X pins σ H1 { s1 with heap := h2, toks := k } := I1.kept fun b o e => hk b o (Heap.lt_size e) e
  have le := firstMet_length_le (fun i => ns.getD i 0) ns.length
  exact call_len_set ho hex hd hf (by rw [hn]; omega) ⟨.int (ddN ns : Nat), H1, I2.tok _, ⟨_, by rw [hn]; rfl⟩, q1⟩
theorem pee_lenSetT {a : Expr} {m : Mo RV} {p p2 q pos : Pos} (hc : X.calm = true) (hm : X.mg "len" = none) (hm2 : X.mg "set" = none) (ha : Pee X ea Wx a m) (hg : Gl X "len" := by rfl) (hg2 : Gl X "set" := by rfl)
    (na : starEach [a] X.env = (false, eval a X.env) :: starEach [] X.env := by rfl) : Pee X ea Wx (.Call (.Name "len" p) [.Call (.Name "set" p2) [a] [] q] [] pos) (mLenSetT m) := by
  obtain ⟨t, q, r⟩ := ha.ex
  exact ⟨_, pe_lenSetT hc hm hm2 q hg hg2 na, ref_lenSetT r⟩
theorem pee_revL {e : Expr} {m : Mo RV} {k : Nat} {p1 p2 p3 pos : Pos} (h : Pee X ea Wx e m) : Pee X ea Wx (.Subscript e (.Slice none none (some (.UnaryOp .USub (.Constant (.int 1) k p1) p2)) p3) pos) (mRevL m) := by
  obtain ⟨t, q, r⟩ := h.ex
  exact ⟨_, pe_revL q, ref_revL r⟩
theorem pei_rng3 {tg a b c : Expr} {p pos : Pos} {ms : Mo (List RV)} (hm : X.mg "range" = none) (ha : Pea X ea Wx [a, b, c] ms) (hg : Gl X "range" := by rfl) (hs : starEach [a, b, c] X.env = (false, eval a X.env) :: starEach [b, c] X.env := by rfl) (hpl : (backTo pos (starEach [b, c] X.env)).any (·.1) = false := by rfl) :
    Pei X ea Wx tg (.Call (.Name "range" p) [a, b, c] [] pos) (mRng3 ms) := let ⟨_, p, r⟩ := ha.ex; ⟨_, pi_range3 hg hm p hs hpl, ref_rng3 r⟩
def gStar (K : PySem.W.Frag) (i j : Nat) : TG := fun v σ H Q => ∃ (t : Addr) (xs : List V) (y : V), v = .ref t ∧ SqT K H t (xs ++ [y]) ∧ ∀ p, H p = none → Q ((σ.set i (some (V.ref p))).set j (some y)) (upd H p (.lst xs))
theorem pg_star {i j : Nat} {x y : Str} {kk : Nat} {px py pp pos : Pos} (hc : X.calm = true) (hN : X.N.Nodup) (hi : X.N[i]? = some x) (hj : X.N[j]? = some y) (hx : Loc X.env.scope x) (hy : Loc X.env.scope y) (hf : X.fn x = true ∨ X.env.scope.names.lookup x = some .local) (hf' : X.fn y = true ∨ X.env.scope.names.lookup y = some .local) :
    PG X (.Tuple [.Starred (.Name x px) pp, .Name y py] kk pos) (gStar X.K i j) := by
  refine ⟨fun pins s σ H v u Q I r ⟨t, xs, z, ev, hq, h⟩ => ?_⟩
  subst ev
  cases r
  obtain ⟨its, rv, ht, hz⟩ := I.tuple hq
  obtain ⟨us, u, rfl, rx, rz⟩ : ∃ us u, its = us ++ [u] ∧ Vals xs us ∧ RelV z u := by
    have := rv
    rcases List.eq_nil_or_concat its with rfl | ⟨us, u, rfl⟩
    · have := rv.length
      simp at this
    · have hl : xs.length = us.length := by
        have := rv.length
        simpa using this
      have t1 := rv.take us.length
      have d1 := rv.drop us.length
      rw [← hl] at t1 d1
      simp only [List.take_left', List.concat_eq_append] at t1 d1
      refine ⟨us, u, by simp, ?_, ?_⟩
      · simpa [hl] using t1
      · have : Vals [z] [u] := by simpa [hl] using d1
        cases this with
        | cons a b => exact a
  rw [show assign (.Tuple [.Starred (.Name x px) pp, .Name y py] kk pos) X.env (.ref t) = (do standAt pos; unpack (.ref t) (assignEach [.Starred (.Name x px) pp, .Name y py] X.env)) from rfl]
  refine wpAny_bind (wpAny_standAt (wpAny_bind (wpAny_holding (unpack_star (I.ok.hd hc) ht (its := us) (u := u) (by simp) (by have := rx.length; simp at hz ⊢; omega) fun h2 k old => ?_))))
  have I1 : Inv X pins σ H { s with heap := h2, toks := k } := I.kept old
  have I2 : Inv X pins σ (upd H h2.objs.size (.lst xs)) { s with heap := h2.push { cls := .type "list", data := .seq us.toArray }, toks := k } :=
    I1.laid (t' := k) (fun b o e => Heap.get?_push_of_some _ e) (Nat.le_refl _) ⟨by have := rx.length; simp only [List.length_append, List.length_singleton] at hz; omega, us, 0, rx, Heap.get?_push_size _ rfl⟩
  show wpAny _ _ (assignInOrder [assign (.Name x px) X.env, assign (.Name y py) X.env] [.ref h2.objs.size, u]) _ _ _
  refine assignInOrder_cons (wpAny_assign_Name (store_ok I2 hN hi hx (v := .ref h2.objs.size) rfl (fun s3 I3 => ?_) hf))
  refine assignInOrder_cons (wpAny_assign_Name (store_ok I3 hN hj hy rz (fun s4 I4 => ?_) hf'))
  exact assignInOrder_nil ⟨_, _, I4, h _ (I1.hok.fresh (Nat.le_refl _))⟩
def mStar (i j : Nat) (m : Mo RV) : Mo Fl := bnd m fun x => bnd (freeze (settle x)) fun w => match w with
  | .tup ws => match ws.getLast? with
    | some y => fun s => some (.ok .nx, { s with r := (s.r.set i (.own (.lst ws.dropLast))).set j (.val y) })
    | none => stk
  | _ => stk
theorem ref_star {i j : Nat} {te : TE} {m : Mo RV} (hij : i ≠ j) (h : RefE K mg ea Wx te m) : RefS K mg ea Wx (tAsg te (gStar K i j)) (mStar i j m) := by
  intro σ H io Fr s S0 r0 s' e D hnx hbk hct hrt hex
  refine one2 h S0 e (fun x q cls d H' io' px => hex x q cls d σ H' io' px) fun x v s1 H1 io1 e2 px => ?_
  obtain ⟨S1, T1, R1⟩ := px.settled
  rcases bnd_some e2 with ⟨z, e3, _⟩ | ⟨w, s3, e3, e4⟩
  · obtain ⟨_, _, _, _, q, _⟩ := freeze_ok S1 R1 e3
    cases q
  obtain ⟨_, l3, S3, w', q, R3⟩ := freeze_ok S1 R1 e3
  cases q
  cases w with
  | tup ws =>
    cases hy : ws.getLast? with
    | none =>
      simp only [hy] at e4
      cases e4
    | some y =>
      simp only [hy] at e4
      cases e4
      obtain ⟨a, vs, rfl, ha, r2⟩ := Rn.tup (.inl R3)
      have ew : ws = ws.dropLast ++ [y] := by
        obtain ⟨ys, rfl⟩ := List.getLast?_eq_some_iff.mp hy
        simp
      obtain ⟨xs, z, rfl, rx, rz⟩ : ∃ xs z, vs = xs ++ [z] ∧ Rws K mg io1 (Ms io1 Fr s3 σ) H1 ws.dropLast xs ∧ Rw K mg io1 (Ms io1 Fr s3 σ) H1 y z := by
        rcases List.eq_nil_or_concat vs with rfl | ⟨us, u, rfl⟩
        · have := r2.1
          rw [ew] at this
          simp at this
        · have hl : ws.dropLast.length = us.length := by
            have := r2.1
            rw [ew] at this
            simpa using this
          have t1 := r2.take us.length
          have d1 := r2.drop us.length
          rw [ew, ← hl] at t1 d1
          rw [List.take_left', List.drop_left'] at * <;> try rfl
          refine ⟨us, u, by simp, ?_, ?_⟩
          · simpa [hl] using t1
          · have d2 : Rws K mg io1 (Ms io1 Fr s3 σ) H1 [y] [u] := by simpa [hl] using d1
            obtain ⟨_, _, e, h1, _⟩ := d2.cons_inv
            cases e
            exact h1
      refine ⟨a, xs, z, rfl, ha, fun p hp => ?_⟩
      obtain ⟨S4, T4, nf⟩ := S3.alloc (o := .lst xs) hp
      obtain ⟨S5, l5⟩ := S4.setOwn (i := i) (c := .lst ws.dropLast) upd_same nf ⟨xs, rfl, rx.pers T4.p⟩
      have T3 := T1.less l3
      have rz' := ((rz.pers T4.p).pers (.less l5))
      obtain ⟨S6, l6⟩ := S5.setVal (i := j) rz'
      exact hnx rfl _ _ io1 ⟨S6, (T3.trans T4).less fun b q => l5 b (l6 b q)⟩
  | _ => cases e4
theorem pes_star (i j : Nat) {x y : Str} {e : Expr} {m : Mo RV} {kk : Nat} {px py pp tp pos : Pos} (hN : X.N.Nodup) (hij : i ≠ j) (hc : X.calm = true) (h : Pee X ea Wx e m) (hi : X.N[i]? = some x := by rfl) (hj : X.N[j]? = some y := by rfl) (hx : Loc X.env.scope x := by first | exact Or.inl rfl | exact Or.inr rfl) (hy : Loc X.env.scope y := by first | exact Or.inl rfl | exact Or.inr rfl)
    (hf : X.fn x = true ∨ X.env.scope.names.lookup x = some .local := by first | exact .inl rfl | exact .inr rfl) (hf' : X.fn y = true ∨ X.env.scope.names.lookup y = some .local := by first | exact .inl rfl | exact .inr rfl)
    (hs : swapsWithSole [.Tuple [.Starred (.Name x px) pp, .Name y py] kk tp] e pos.line X.env = pure false := by rfl) (hw : swappedStores [.Tuple [.Starred (.Name x px) pp, .Name y py] kk tp] e X.env = pure none := by rfl) :
    Pes X ea Wx (.Assign [.Tuple [.Starred (.Name x px) pp, .Name y py] kk tp] e pos) (mStar i j m) := by
  obtain ⟨t, q, r⟩ := h.ex
  exact ⟨_, ps_asg q (pg_star hc hN hi hj hx hy hf hf') hs hw, ref_star hij r⟩
end
section
variable {r : List SV} {G : List Cell} {m : Mo RV} {ms : Mo (List RV)} {i j : Nat}
@[simp] theorem mRng3_e : mRng3 ms ⟨r, G⟩ = bnd ms (fun xs => bnd (lookAll xs) fun ws => match ws with
  | [.int i, .int j, .int (-1)] => if Rk i ∧ Rk j then ret ⟨dnW i (i - j).toNat, none⟩ else stk
  | _ => stk) ⟨r, G⟩ := rfl
@[simp] theorem mRevL_e : mRevL m ⟨r, G⟩ = bnd m (fun x => bnd (look (settle x)) fun w => match w with
  | .lst ws => ret (.own (.lst ws.reverse))
  | _ => stk) ⟨r, G⟩ := rfl
@[simp] theorem mLenSetT_e : mLenSetT m ⟨r, G⟩ = bnd m (fun x => bnd (look (settle x)) fun w => match ddW w with
  | some k => ret (.val (.int (k : Nat)))
  | none => stk) ⟨r, G⟩ := rfl
@[simp] theorem mStar_e : mStar i j m ⟨r, G⟩ = bnd m (fun x => bnd (freeze (settle x)) fun w => match w with
  | .tup ws => match ws.getLast? with
    | some y => fun s => some (.ok .nx, { s with r := (s.r.set i (.own (.lst ws.dropLast))).set j (.val y) })
    | none => stk
  | _ => stk) ⟨r, G⟩ := rfl
end
end Z
set_option linter.all false
set_option Elab.async false
set_option maxRecDepth 100000
namespace Z
open PySem PySem.Spec PyProof.Rows L2 GenW
def NoG (fs : List Frame) : Prop := ∀ F ∈ fs, ∃ k h g l c p kp, F = .ret k h g l c p kp
theorem NoG.nil : NoG [] := fun _ h => by simp at h
theorem NoG.cons {k h g l c p kp} {fs : List Frame} (h' : NoG fs) : NoG (.ret k h g l c p kp :: fs) := fun F m => by
  rcases List.mem_cons.mp m with rfl | m
  · exact ⟨_, _, _, _, _, _, _, rfl⟩
  · exact h' F m
def stuckG : GenState → GenState
  | .suspended _ l c p fs cl => .suspended (fun _ => .unsupported "") l c p (fs.map fun F => .ret (fun _ => .unsupported "") none false [] F.where_.1 F.where_.2 []) cl
  | x => x
def Sus (x : GenState) : Prop := ∃ k l c p fs cl, x = .suspended k l c p fs cl
structure Sl (P : Nat → Option GenState) (s t : Shared) : Prop where
  heap : s.heap = t.heap
  drawn : s.drawn = t.drawn
  toks : s.toks = t.toks
  os : s.os = t.os
  size : s.gens.size = t.gens.size
  out : ∀ i, P i = none → s.gens[i]? = t.gens[i]? ∧ ∀ k l c p fs cl, t.gens[i]? = some (.suspended k l c p fs cl) → NoG fs
  ins : ∀ i x, P i = some x → Sus x ∧ s.gens[i]? = some x ∧ t.gens[i]? = some (stuckG x)
section
variable {P : Nat → Option GenState} {s t : Shared} {M : Model}
theorem sets_ne {a : Array GenState} {g i : Nat} {x : GenState} (h : i ≠ g) : (a.setIfInBounds g x)[i]? = a[i]? := by rw [Array.getElem?_setIfInBounds_ne (Ne.symm h)]
theorem Sl.set (h : Sl P s t) {g : Nat} {x : GenState} (hg : P g = none) (hx : ∀ k l c p fs cl, x = .suspended k l c p fs cl → NoG fs) : Sl P (s.setGen g x) (t.setGen g x) where
  heap := h.heap
  drawn := h.drawn
  toks := h.toks
  os := h.os
  size := by
    show (s.gens.setIfInBounds g x).size = (t.gens.setIfInBounds g x).size
    simp [h.size]
  out := fun i hi => by
    show (s.gens.setIfInBounds g x)[i]? = (t.gens.setIfInBounds g x)[i]? ∧ ∀ k l c p fs cl, (t.gens.setIfInBounds g x)[i]? = some (.suspended k l c p fs cl) → NoG fs
    by_cases e : i = g
    · subst e
      rw [Array.getElem?_setIfInBounds_self, Array.getElem?_setIfInBounds_self, h.size]
      refine ⟨rfl, fun k l c p fs cl q => ?_⟩
      split at q
      · exact hx _ _ _ _ _ _ (Option.some.inj q)
      · cases q
    · rw [sets_ne e, sets_ne e]
      exact h.out i hi
  ins := fun i y hi => by
    have e : i ≠ g := fun z => by rw [z, hg] at hi; cases hi
    obtain ⟨a, b, c⟩ := h.ins i y hi
    refine ⟨a, ?_, ?_⟩
    · show (s.gens.setIfInBounds g x)[i]? = _
      rw [sets_ne e]; exact b
    · show (t.gens.setIfInBounds g x)[i]? = _
      rw [sets_ne e]; exact c
theorem Sl.push (h : Sl P s t) (c : Code) : Sl P { s with gens := s.gens.push (.fresh c) } { t with gens := t.gens.push (.fresh c) } where
  heap := h.heap
  drawn := h.drawn
  toks := h.toks
  os := h.os
  size := by simp [h.size]
  out := fun i hi => by
    have q := h.out i hi
    simp only [Array.getElem?_push, h.size]
    split
    · exact ⟨rfl, fun _ _ _ _ _ _ z => by cases z⟩
    · exact q
  ins := fun i y hi => by
    obtain ⟨a, b, d⟩ := h.ins i y hi
    have b1 := (Array.getElem?_eq_some_iff.mp b).1
    have d1 := (Array.getElem?_eq_some_iff.mp d).1
    refine ⟨a, ?_, ?_⟩
    · simp only [Array.getElem?_push, if_neg (Nat.ne_of_lt b1)]
      exact b
    · simp only [Array.getElem?_push, if_neg (Nat.ne_of_lt d1)]
      exact d
end
section
variable {P : Nat → Option GenState} {M : Model}
def slept (s : Shared) (i : Nat) : Option GenState := match s.gens[i]? with
  | some (.suspended k l c p fs cl) => some (.suspended k l c p fs cl)
  | _ => none
theorem Sl.bare {s t s0 : Shared} (x : Sl (slept s0) s t) (h : AllBare t.gens) (h0 : AllBare s0.gens) : AllBare s.gens := fun y hy => by
  obtain ⟨i, hi, e⟩ := Array.mem_iff_getElem.mp hy
  have e1 : s.gens[i]? = some y := by rw [Array.getElem?_eq_getElem hi, e]
  cases hp : slept s0 i with
  | none =>
    rw [(x.out i hp).1] at e1
    exact h y (Array.mem_of_getElem? e1)
  | some z =>
    obtain ⟨_, b, _⟩ := x.ins i z hp
    rw [b] at e1
    cases e1
    unfold slept at hp
    split at hp
    · rename_i q
      cases hp
      exact h0 _ (Array.mem_of_getElem? q)
    · cases hp
theorem Sl.eq {s t s0 : Shared} (x : Sl (slept s0) s t) : s = { t with gens := s.gens } := by
  obtain ⟨h1, h2, h3, h4, h5⟩ := s
  obtain ⟨g1, g2, g3, g4, g5⟩ := t
  have a := x.heap; have b := x.drawn; have c := x.toks; have d := x.os
  simp only at a b c d
  subst a b c d
  rfl
end
end Z
set_option linter.all false
set_option Elab.async false
set_option maxRecDepth 100000
namespace Z
open PySem PySem.Spec PyProof.Rows L2
def lk (L : List (Addr × Obj)) (H : Hp) : Hp := fun b => match L.lookup b with
  | some o => some (.frz o (.own b))
  | none => H b
section
variable {X : Cx} {L : List (Addr × Obj)} {pins : List (Addr × Obj)} {σ : L2.St} {H : Hp} {s : Shared}
structure Afar (X : Cx) (L : List (Addr × Obj)) (pins : List (Addr × Obj)) : Prop where
  young : ∀ b o, L.lookup b = some o → X.s_0.heap.objs.size ≤ b
  loc : ∀ o, L.lookup X.env.locals ≠ some o
  cell : ∀ x c o, X.env.cells.lookup x = some c → L.lookup c ≠ some o
  pin : ∀ p ∈ X.pn ++ pins, ∀ o, L.lookup p.1 ≠ some o
  h0 : ∀ b o, L.lookup b = some o → (∀ xs, X.H_0 b ≠ some (.tup xs)) ∧ (∀ ob u, X.H_0 b ≠ some (.frz ob u)) ∧ ∀ ps, X.H_0 b ≠ some (.tbl ps)
end
end Z
set_option Elab.async false
set_option linter.all false
set_option maxRecDepth 100000
set_option Elab.async false
set_option linter.all false
set_option maxRecDepth 100000
namespace HT
open PySem PySem.Spec PyProof.Rows
section
variable {prog : Program} {w : World} {A : Around} {E : Value → Shared → Prop} {s : Shared}
theorem adj_rev (n : Nat) : Builtin.Slice.sliceAdjust none none (-1) (n : Int) = ((n : Int) - 1, -1) := rfl
theorem places_rev (n : Nat) : Builtin.Slice.slicePlaces ((n : Int) - 1) (-1) (-1) = n := by
  unfold Builtin.Slice.slicePlaces
  rw [if_neg (by decide), show (- -1 : Int) = 1 from rfl, Int.ediv_one]
  split <;> omega
theorem applied_rev {sl : Addr} {t : Tok} {n : Nat} {Q : Int × Int × Nat → Shared → Prop} (hs : s.heap.IsSliceOf sl .none .none (.int (-1) t)) (h : Q ((n : Int) - 1, -1, n) s) : wpAny (model prog w) A (Builtin.Slice.sliceApplied (.ref sl) (pure (n : Int))) Q E s := by
  obtain ⟨ob, ho, hc, hd⟩ := hs
  unfold Builtin.Slice.sliceApplied Builtin.Slice.sliceFields
  refine wpAny_bind (wpAny_bind (wpAny_field ho hd (x := .none) rfl (wpAny_bind (wpAny_field ho hd (x := .none) rfl (wpAny_bind (wpAny_field ho hd (x := .int (-1) t) rfl (wpAny_pure ?_)))))))
  refine wpAny_bind (slicePart_ (o := some (-1)) (.int _ _) ?_)
  show wpAny _ _ (if ((-1 : Int) == 0) = true then _ else _) _ _ s
  rw [if_neg (by decide)]
  refine wpAny_bind (slicePart_none (wpAny_bind (slicePart_none (wpAny_bind (wpAny_pure ?_)))))
  show wpAny _ _ (match Builtin.Slice.sliceAdjust none none (-1) (n : Int) with | (lo, hi) => pure (lo, (-1 : Int), Builtin.Slice.slicePlaces lo hi (-1))) _ _ s
  rw [adj_rev n]
  show wpAny _ _ (pure ((n : Int) - 1, (-1 : Int), Builtin.Slice.slicePlaces ((n : Int) - 1) (-1) (-1))) _ _ s
  rw [places_rev]
  exact wpAny_pure h
theorem pick_rev (xs : Array Value) : ((List.range xs.size).filterMap fun (m : Nat) => xs[((xs.size : Int) - 1 + (m : Int) * (-1)).toNat]?).toArray = xs.toList.reverse.toArray := by
  congr 1
  apply List.ext_getElem?
  have key : ∀ l : List Nat, (∀ m ∈ l, m < xs.size) → (l.filterMap fun (m : Nat) => xs[((xs.size : Int) - 1 + (m : Int) * (-1)).toNat]?) = l.map fun m => xs.toList.getD (xs.size - 1 - m) .none := by
    intro l
    induction l with
    | nil => intro _; rfl
    | cons m l ih =>
      intro h
      have hm := h m List.mem_cons_self
      have e : ((xs.size : Int) - 1 + (m : Int) * (-1)).toNat = xs.size - 1 - m := by omega
      have g : xs[xs.size - 1 - m]? = some (xs.toList.getD (xs.size - 1 - m) .none) := by
        rw [List.getD_eq_getElem?_getD, Array.getElem?_toList, Array.getElem?_eq_getElem (by omega)]
        rfl
      rw [List.filterMap_cons, e, g, List.map_cons, ih fun k hk => h k (List.mem_cons_of_mem _ hk)]
  rw [key _ fun m hm => List.mem_range.mp hm]
  intro i
  rcases Nat.lt_or_ge i xs.size with q | q
  · rw [List.getElem?_map, List.getElem?_range q, List.getElem?_reverse (by simpa using q)]
    simp only [Option.map_some, Array.length_toList]
    rw [List.getD_eq_getElem?_getD, Array.getElem?_toList, Array.getElem?_eq_getElem (by omega)]
    rfl
  · rw [List.getElem?_eq_none (by simpa using q), List.getElem?_eq_none (by simpa using q)]
theorem getItem_tuple_rev {t sl : Addr} {items : Array Value} {k : Tok} {Q : Value → Shared → Prop} (ht : IsTup s.heap t items) (hs : s.heap.IsSliceOf sl .none .none (.int (-1) k))
    (h : Q (.ref s.heap.objs.size) { s with heap := s.heap.push { cls := .type "tuple", data := .seq items.toList.reverse.toArray } }) (hz : items.size ≤ sizeLine) : wpAny (model prog w) A (getItem (.ref t) (.ref sl)) Q E s := by
  have fits : sizeOk (.seq items.toList.reverse.toArray) := by
    show items.toList.reverse.toArray.size ≤ sizeLine
    simpa using hz
  have hT : s.TypeIs (.ref sl) "slice" := let ⟨ob, ho, hc, _⟩ := hs; ⟨ob, ho, hc⟩
  unfold getItem
  try with_reducible refine wpAny_holding ?_
  first | refine wpAny_bind (wpAny_pure ?_) | skip
  refine wpAny_bind (wpAny_sequenceKey ht.typeIs (by decide) ?_)
  refine wpAny_bind (wpAny_callSpecial?_slot (name := Str.ofString "__getitem__") ht.typeIs PyProof.Rows.slot_tuple_getitem (wpAny_call_entry PyProof.Rows.slot_tuple_getitem ht.typeIs entry_tuple_getitem ?_ (args_tuple_getitem _ _)))
  show wpAny _ _ (Builtin.Tuple.tupleItemsOf (.ref t) >>= _) _ _ s
  refine wpAny_bind (tupleItemsOf_ ht (wpAny_bind (wpAny_typeOf hT ?_)))
  rw [if_pos (by decide)]
  refine wpAny_bind (applied_rev (n := items.size) hs ?_)
  have no : ¬ (((items.size : Int) - 1 == 0 && (-1 : Int) == 1 && items.size == items.size) = true) := by simp
  show wpAny _ _ (if ((items.size : Int) - 1 == 0 && (-1 : Int) == 1 && items.size == items.size) = true then _ else _) _ _ s
  rw [if_neg no, pick_rev]
  first
    | exact wpAny_bind (m := Builtin.Tuple.tupleExact _) (wpAny_newObj_type (wpAny_pure ⟨_, rfl, wpAny_pure h⟩) fits)
    | exact wpAny_bind (wpAny_bind (m := Builtin.Tuple.tupleExact _) (wpAny_newObj_type (wpAny_pure (wpAny_pure ⟨_, rfl, wpAny_pure h⟩)) fits))
    | exact wpAny_bind (wpAny_bind (m := Builtin.Tuple.tupleExact _) (wpAny_newObj_type (wpAny_pure ⟨_, rfl, wpAny_pure h⟩) fits))
end
end HT
namespace Z
open PySem PySem.Spec PyProof.Rows L2
def tRevT (K : PySem.W.Frag) (te : TE) : TE := fun σ H Q => te σ H fun x H1 => ∃ a xs, x = .ref a ∧ SqT K H1 a xs ∧ ∀ p, H1 p = none → Q (.ref p) (upd H1 p (.tup xs.reverse))
theorem pe_revT {X : Cx} {e : Expr} {te : TE} {k : Nat} {p1 p2 p3 pos : Pos} (he : PE X e te) : PE X (.Subscript e (.Slice none none (some (.UnaryOp .USub (.Constant (.int 1) k p1) p2)) p3) pos) (tRevT X.K te) := by
  refine ⟨fun pins s σ H Q I h => Subscript_ (thn (he.run pins s σ H _ I h) fun v s1 ⟨x, H1, I1, r1, a, xs, ex, hx, q⟩ => ?_)⟩
  subst ex
  cases r1
  have part : PO X (some (.UnaryOp .USub (.Constant (.int 1) k p1) p2)) (tPart (tUn (rU fun i => .int (-i)) (tC (.int 1)))) := po_some (pe_un un_neg pe_int)
  refine wpAny_Slice (thn (po_none.run pins s1 σ H1 (fun o H2 => o = none ∧ H2 = H1) I1 ⟨rfl, rfl⟩) fun vl s2 ⟨l, H2, I2, pl, el, e2⟩ => ?_)
  subst el e2
  cases pl
  refine thn (po_none.run pins s2 σ H2 (fun o H3 => o = none ∧ H3 = H2) I2 ⟨rfl, rfl⟩) fun vu s3 ⟨u, H3, I3, pu, eu, e3⟩ => ?_
  subst eu e3
  cases pu
  refine thn (part.run pins s3 σ H3 (fun o H4 => o = some (-1) ∧ H4 = H3) I3 ⟨1, rfl, -1, rfl, rfl, rfl⟩) fun vs s4 ⟨o, H4, I4, ps, eo, e4⟩ => ?_
  subst eo e4
  obtain ⟨t, rfl⟩ : ∃ t, vs = .int (-1) t := by cases ps; exact ⟨_, rfl⟩
  have I5 : Inv X pins σ H4 { s4 with heap := s4.heap.push { cls := .type "slice", data := .fields #[.none, .none, .int (-1) t] } } := I4.kept (t' := s4.toks) fun b ob q => Heap.get?_push_of_some _ q
  obtain ⟨its, r, ht, hz⟩ := I5.tuple hx
  show wpAny (model X.prog X.w) X.A (subscriptTail e (.Slice none none (some (.UnaryOp .USub (.Constant (.int 1) k p1) p2)) p3) (.ref a) (.ref s4.heap.objs.size)) (EP X pins σ Q) X.xe { s4 with heap := s4.heap.push { cls := .type "slice", data := .fields #[.none, .none, .int (-1) t] } }
  refine tail_any (ops := [.ref a, .ref s4.heap.objs.size]) ht.typeIs (PyProof.Rows.slot_tuple_getitem.lookup) ?_ (by with_unfolding_all rfl)
  refine HT.getItem_tuple_rev ht (Heap.IsSliceOf.new _ .none .none _) ?_ (by rw [List.size_toArray, ← r.length]; exact hz)
  refine ⟨.ref _, _, I5.laid (t' := s4.toks) (o := .tup xs.reverse) (fun b ob q => Heap.get?_push_of_some _ q) (Nat.le_refl _) ?_, rfl, q _ (I5.hok.fresh (Nat.le_refl _))⟩
  exact ⟨by rw [List.length_reverse]; exact hz, _, r.reverse, _, Heap.get?_push_size _ rfl, rfl, _, rfl⟩
def mRevT (m : Mo RV) : Mo RV := bnd m fun x => bnd (look (settle x)) fun w => match w with
  | .tup ws => ret (.val (.tup ws.reverse))
  | _ => stk
section
variable {K : PySem.W.Frag} {mg : Str → Option Value} {ea : EA} {Wx : WX}
theorem Rn.tupK {io : List Addr} {M : Addr → Prop} {H : Hp} {ws : List W} {v : V} (h : Rn K mg io M H (.tup ws) v) : ∃ a vs, v = .ref a ∧ SqT K H a vs ∧ Rws K mg io M H ws vs := by
  rcases h with h | ⟨c, o, a, e, _, _, _⟩
  · cases h with
    | tup h1 h2 h3 => exact ⟨_, _, rfl, h1.imp (fun z => .inl z.1) (fun z => z.1), h2, h3⟩
  · cases c <;> cases e
theorem ref_revT {te : TE} {m : Mo RV} (h : RefE K mg ea Wx te m) : RefE K mg ea Wx (tRevT K te) (mRevT m) := by
  intro σ H io Fr s S0 r0 s' e Q hok hex
  refine one2 h S0 e hex fun x vx s1 H1 io1 e2 px => ?_
  obtain ⟨S1, T1, R1⟩ := px.settled
  rcases bnd_some e2 with ⟨z, e3, _⟩ | ⟨w, s2, e3, e4⟩
  · obtain ⟨_, _, q, _⟩ := look_ok S1 R1 e3
    cases q
  obtain ⟨rfl, w', q, nx⟩ := look_ok S1 R1 e3
  cases q
  split at e4
  · rename_i ws
    cases e4
    obtain ⟨a, vs, rfl, ha, rr⟩ := nx.tupK
    have := OQ.post (z := .newt ws.reverse) S1 T1 fun v H3 io3 q => hok _ rfl v H3 io3 q
    exact ⟨a, vs, rfl, ha, fun p hp => this p _ hp rr.rev⟩
  · cases e4
theorem pee_revT {X : Cx} {e : Expr} {m : Mo RV} {k : Nat} {p1 p2 p3 pos : Pos} (h : Pee X ea Wx e m) : Pee X ea Wx (.Subscript e (.Slice none none (some (.UnaryOp .USub (.Constant (.int 1) k p1) p2)) p3) pos) (mRevT m) := by
  obtain ⟨t, q, r⟩ := h.ex
  exact ⟨_, pe_revT q, ref_revT r⟩
variable {r : List SV} {G : List Cell} {m : Mo RV}
@[simp] theorem mRevT_e : mRevT m ⟨r, G⟩ = bnd m (fun x => bnd (look (settle x)) fun w => match w with
  | .tup ws => ret (.val (.tup ws.reverse))
  | _ => stk) ⟨r, G⟩ := rfl
end
end Z
set_option Elab.async false
set_option linter.all false
set_option maxRecDepth 100000
set_option maxHeartbeats 4000000
namespace Z
open PySem PySem.Spec PyProof.Rows L2
def top (i : Nat) : Stmt := PySem.Challenge.pw_partkeepers_k23_the_run_of_a_chain.main.body.getD i (.Pass ⟨0, 0, 0, 0⟩)
abbrev s__law_numbers : Stmt := top 20
abbrev s__law_row : Stmt := top 21
abbrev s__law_rows : Stmt := top 22
abbrev s__law_cell : Stmt := top 19
abbrev s_Layout___init__ : Stmt := inClass (top 16) 0
abbrev s__law_lines : Stmt := top 23
abbrev s__law_longer : Stmt := top 26
abbrev s__law_keys_of : Stmt := top 24
abbrev s__law_is_chain : Stmt := top 25
abbrev s__law_chains : Stmt := top 27
abbrev s__law_drawn : Stmt := top 32
abbrev s__law_valid : Stmt := top 30
abbrev s_Layout___len__ : Stmt := inClass (top 16) 1
abbrev s_is_path : Stmt := top 10
abbrev s_lowest : Stmt := top 9
abbrev s_chain_keys : Stmt := top 11
abbrev s_chain_run : Stmt := top 12
abbrev s__law_refused : Stmt := top 31
abbrev s__law_run_of : Stmt := top 28
abbrev s__law_is_int : Stmt := top 18
abbrev s__law_same_steps : Stmt := top 29
abbrev s_law : Stmt := top 33
abbrev s_BadKey___init__ : Stmt := inClass (top 4) 0
abbrev s_NoChain___init__ : Stmt := inClass (top 7) 0
def ck0 (K : PySem.W.Frag) : List Bool := [fnB K (He.ga K "_law_numbers") "_law_numbers", fnB K (He.ga K "_law_row") "_law_row", fnB K (He.ga K "_law_rows") "_law_rows", fnB K (He.ga K "_law_cell") "_law_cell", fnB K (He.ma K (He.ga K "Layout") "__init__") "Layout.__init__", fnB K (He.ga K "_law_lines") "_law_lines", fnB K (He.ga K "_law_longer") "_law_longer", fnB K (He.ga K "_law_keys_of") "_law_keys_of", fnB K (He.ga K "_law_is_chain") "_law_is_chain", fnB K (He.ga K "_law_chains") "_law_chains", fnB K (He.ga K "_law_drawn") "_law_drawn", fnB K (He.ga K "_law_valid") "_law_valid", fnB K (He.ma K (He.ga K "Layout") "__len__") "Layout.__len__", fnB K (He.ga K "is_path") "is_path", fnB K (He.ga K "lowest") "lowest", fnB K (He.ga K "chain_keys") "chain_keys", fnB K (He.ga K "chain_run") "chain_run", fnB K (He.ga K "_law_refused") "_law_refused", fnB K (He.ga K "_law_run_of") "_law_run_of", fnB K (He.ga K "_law_is_int") "_law_is_int", fnB K (He.ga K "_law_same_steps") "_law_same_steps", fnB K (He.ga K "law") "law", fnB K (He.ma K (He.ga K "BadKey") "__init__") "BadKey.__init__", fnB K (He.ma K (He.ga K "NoChain") "__init__") "NoChain.__init__", intB K "MOST_COPIES" 6, intB K "MOST_KEYS" 8, decide (PySem.W.nsIn K mainGlobals "all" = some none), decide (PySem.W.nsIn K mainGlobals "any" = some none), decide (PySem.W.nsIn K mainGlobals "bool" = some none), decide (PySem.W.nsIn K mainGlobals "int" = some none), decide (PySem.W.nsIn K mainGlobals "isinstance" = some none), decide (PySem.W.nsIn K mainGlobals "len" = some none), decide (PySem.W.nsIn K mainGlobals "list" = some none), decide (PySem.W.nsIn K mainGlobals "range" = some none), decide (PySem.W.nsIn K mainGlobals "set" = some none), decide (PySem.W.nsIn K mainGlobals "str" = some none), decide (PySem.W.nsIn K mainGlobals "sum" = some none), decide (PySem.W.nsIn K mainGlobals "tuple" = some none), decide (PySem.W.nsIn K mainGlobals "KeeperError" = some (some (.ref (He.ga K "KeeperError")))), decide (PySem.W.keepIn K (.ref (He.ga K "KeeperError")) = true)]
def ck1 (K : PySem.W.Frag) : List Bool := [decide (PySem.W.nsIn K mainGlobals "BadLayout" = some (some (.ref (He.ga K "BadLayout")))), decide (PySem.W.keepIn K (.ref (He.ga K "BadLayout")) = true), decide (PySem.W.nsIn K mainGlobals "BadKey" = some (some (.ref (He.ga K "BadKey")))), decide (PySem.W.keepIn K (.ref (He.ga K "BadKey")) = true), decide (PySem.W.nsIn K mainGlobals "NoCopy" = some (some (.ref (He.ga K "NoCopy")))), decide (PySem.W.keepIn K (.ref (He.ga K "NoCopy")) = true), decide (PySem.W.nsIn K mainGlobals "LineError" = some (some (.ref (He.ga K "LineError")))), decide (PySem.W.keepIn K (.ref (He.ga K "LineError")) = true), decide (PySem.W.nsIn K mainGlobals "NoChain" = some (some (.ref (He.ga K "NoChain")))), decide (PySem.W.keepIn K (.ref (He.ga K "NoChain")) = true), decide (PySem.W.nsIn K mainGlobals "Layout" = some (some (.ref (He.ga K "Layout")))), decide (PySem.W.keepIn K (.ref (He.ga K "Layout")) = true), decide (PySem.W.plainGet K (He.ga K "Layout") Str.empty = true), decide (PySem.W.hasDictIn K (He.ga K "Layout") = true), decide (PySem.W.plainOver K (He.ga K "Layout") = true), decide (PySem.W.findIn K (.ref (He.ga K "Layout")) "__setattr__" = some (some (.builtin "object.__setattr__"))), decide (PySem.W.makesIn K (He.ga K "Layout") = true), decide (PySem.W.findIn K (.ref (He.ga K "Layout")) "__class__" = some (some (.builtin "object.__class__"))), decide (PySem.W.mroIn K (He.ga K "Layout") (.type "object") = some true), decide (PySem.W.kitOne K (.ref (He.ga K "Layout")) (.ref (He.ga K "Layout")) = some true), decide (PySem.W.specialIn K (.builtin "object.__class__") "__get__" = some (some (.builtin "getset_descriptor.__get__"))), decide (PySem.W.takesIn K (.builtin "object.__class__") = some true), decide (PySem.W.findIn K (.ref (He.ga K "Layout")) "masks" = some none), decide (PySem.W.findIn K (.ref (He.ga K "Layout")) "rows" = some none), decide (PySem.W.findIn K (.ref (He.ga K "NoChain")) "chain" = some none), decide (PySem.W.kitOne K (.ref (He.ga K "Layout")) (.type "bool") = some false), decide (PySem.W.kitOne K (.ref (He.ga K "Layout")) (.type "int") = some false), decide (PySem.W.kitOne K (.ref (He.ga K "Layout")) (.type "list") = some false), decide (PySem.W.kitOne K (.ref (He.ga K "Layout")) (.type "str") = some false), decide (PySem.W.kitOne K (.ref (He.ga K "Layout")) (.type "tuple") = some false), decide (PySem.W.findIn K (.ref (He.ga K "KeeperError")) "__getattribute__" = some (some (.builtin "BaseException.__getattribute__"))), decide (PySem.W.findIn K (.ref (He.ga K "KeeperError")) "__getattr__" = some none), decide (PySem.W.subIn K (.ref (He.ga K "KeeperError")) (.type "BaseException") = some true), decide (PySem.W.hasDictIn K (He.ga K "KeeperError") = true), decide (PySem.W.findIn K (.ref (He.ga K "KeeperError")) "__class__" = some (some (.builtin "object.__class__"))), decide (PySem.W.mroIn K (He.ga K "KeeperError") (.type "object") = some true), decide (PySem.W.findIn K (.ref (He.ga K "BadLayout")) "__getattribute__" = some (some (.builtin "BaseException.__getattribute__"))), decide (PySem.W.findIn K (.ref (He.ga K "BadLayout")) "__getattr__" = some none), decide (PySem.W.subIn K (.ref (He.ga K "BadLayout")) (.type "BaseException") = some true), decide (PySem.W.hasDictIn K (He.ga K "BadLayout") = true)]
def ck2 (K : PySem.W.Frag) : List Bool := [decide (PySem.W.findIn K (.ref (He.ga K "BadLayout")) "__class__" = some (some (.builtin "object.__class__"))), decide (PySem.W.mroIn K (He.ga K "BadLayout") (.type "object") = some true), decide (PySem.W.findIn K (.ref (He.ga K "BadKey")) "__getattribute__" = some (some (.builtin "BaseException.__getattribute__"))), decide (PySem.W.findIn K (.ref (He.ga K "BadKey")) "__getattr__" = some none), decide (PySem.W.subIn K (.ref (He.ga K "BadKey")) (.type "BaseException") = some true), decide (PySem.W.hasDictIn K (He.ga K "BadKey") = true), decide (PySem.W.findIn K (.ref (He.ga K "BadKey")) "__class__" = some (some (.builtin "object.__class__"))), decide (PySem.W.mroIn K (He.ga K "BadKey") (.type "object") = some true), decide (PySem.W.findIn K (.ref (He.ga K "NoCopy")) "__getattribute__" = some (some (.builtin "BaseException.__getattribute__"))), decide (PySem.W.findIn K (.ref (He.ga K "NoCopy")) "__getattr__" = some none), decide (PySem.W.subIn K (.ref (He.ga K "NoCopy")) (.type "BaseException") = some true), decide (PySem.W.hasDictIn K (He.ga K "NoCopy") = true), decide (PySem.W.findIn K (.ref (He.ga K "NoCopy")) "__class__" = some (some (.builtin "object.__class__"))), decide (PySem.W.mroIn K (He.ga K "NoCopy") (.type "object") = some true), decide (PySem.W.findIn K (.ref (He.ga K "LineError")) "__getattribute__" = some (some (.builtin "BaseException.__getattribute__"))), decide (PySem.W.findIn K (.ref (He.ga K "LineError")) "__getattr__" = some none), decide (PySem.W.subIn K (.ref (He.ga K "LineError")) (.type "BaseException") = some true), decide (PySem.W.hasDictIn K (He.ga K "LineError") = true), decide (PySem.W.findIn K (.ref (He.ga K "LineError")) "__class__" = some (some (.builtin "object.__class__"))), decide (PySem.W.mroIn K (He.ga K "LineError") (.type "object") = some true), decide (PySem.W.findIn K (.ref (He.ga K "NoChain")) "__getattribute__" = some (some (.builtin "BaseException.__getattribute__"))), decide (PySem.W.findIn K (.ref (He.ga K "NoChain")) "__getattr__" = some none), decide (PySem.W.subIn K (.ref (He.ga K "NoChain")) (.type "BaseException") = some true), decide (PySem.W.hasDictIn K (He.ga K "NoChain") = true), decide (PySem.W.findIn K (.ref (He.ga K "NoChain")) "__class__" = some (some (.builtin "object.__class__"))), decide (PySem.W.mroIn K (He.ga K "NoChain") (.type "object") = some true), decide (PySem.W.kitOne K (.ref (He.ga K "NoChain")) (.ref (He.ga K "KeeperError")) = some true), decide (PySem.W.kitOne K (.ref (He.ga K "LineError")) (.ref (He.ga K "KeeperError")) = some true), decide (PySem.W.kitOne K (.ref (He.ga K "NoCopy")) (.ref (He.ga K "KeeperError")) = some true), decide (PySem.W.kitOne K (.ref (He.ga K "BadKey")) (.ref (He.ga K "KeeperError")) = some true), decide (PySem.W.kitOne K (.ref (He.ga K "BadLayout")) (.ref (He.ga K "KeeperError")) = some true), decide (PySem.W.kitOne K (.ref (He.ga K "KeeperError")) (.ref (He.ga K "KeeperError")) = some true), decide (PySem.W.kitOne K (.ref (He.ga K "NoChain")) (.ref (He.ga K "LineError")) = some false), decide (PySem.W.kitOne K (.ref (He.ga K "LineError")) (.ref (He.ga K "LineError")) = some true), decide (PySem.W.kitOne K (.ref (He.ga K "NoCopy")) (.ref (He.ga K "LineError")) = some false), decide (PySem.W.kitOne K (.ref (He.ga K "BadKey")) (.ref (He.ga K "LineError")) = some false), decide (PySem.W.kitOne K (.ref (He.ga K "BadLayout")) (.ref (He.ga K "LineError")) = some false), decide (PySem.W.kitOne K (.ref (He.ga K "KeeperError")) (.ref (He.ga K "LineError")) = some false), decide (PySem.W.subIn K (.ref (He.ga K "NoChain")) (.type "BaseException") = some true), decide (PySem.W.hasDictIn K (He.ga K "NoChain") = true)]
def ck3 (K : PySem.W.Frag) : List Bool := [decide (PySem.W.typeIn K (.ref (He.ga K "NoChain")) = some (.type "type")), decide (PySem.W.subIn K (.ref (He.ga K "NoChain")) (.ref (He.ga K "NoChain")) = some true), decide (PySem.W.subIn K (.ref (He.ga K "LineError")) (.ref (He.ga K "NoChain")) = some false), decide (PySem.W.subIn K (.ref (He.ga K "NoCopy")) (.ref (He.ga K "NoChain")) = some false), decide (PySem.W.subIn K (.ref (He.ga K "BadKey")) (.ref (He.ga K "NoChain")) = some false), decide (PySem.W.subIn K (.ref (He.ga K "BadLayout")) (.ref (He.ga K "NoChain")) = some false), decide (PySem.W.subIn K (.ref (He.ga K "KeeperError")) (.ref (He.ga K "NoChain")) = some false), excB K (He.ga K "BadKey") [.ref (He.ga K "KeeperError"), .type "ValueError", .type "Exception", .type "BaseException", .type "object"] "ValueError.__new__", decide (PySem.W.findIn K (.ref (He.ga K "BadKey")) "__setattr__" = some (some (.builtin "object.__setattr__"))), decide (PySem.W.subIn K (.ref (He.ga K "BadKey")) (.type "BaseException") = some true), decide (PySem.W.typeIn K (.ref (He.ga K "BadKey")) = some (.type "type")), decide (PySem.W.findIn K (.ref (He.ga K "BadKey")) "key" = some none), decide (PySem.W.findIn K (.ref (He.ga K "BadKey")) "__init__" = some (some (.ref (He.ma K (He.ga K "BadKey") "__init__")))), decide (PySem.W.typeIn K (.ref (He.ma K (He.ga K "BadKey") "__init__")) = some (.type "function")), decide (PySem.W.excIn K (He.ga K "BadLayout") [.type "ValueError", .type "Exception", .type "BaseException", .type "object"] "ValueError.__new__" = true), decide (PySem.W.subIn K (.ref (He.ga K "BadLayout")) (.type "BaseException") = some true), decide (PySem.W.typeIn K (.ref (He.ga K "BadLayout")) = some (.type "type")), excB K (He.ga K "NoChain") [.ref (He.ga K "KeeperError"), .type "ValueError", .type "Exception", .type "BaseException", .type "object"] "ValueError.__new__", decide (PySem.W.findIn K (.ref (He.ga K "NoChain")) "__setattr__" = some (some (.builtin "object.__setattr__"))), decide (PySem.W.subIn K (.ref (He.ga K "NoChain")) (.type "BaseException") = some true), decide (PySem.W.typeIn K (.ref (He.ga K "NoChain")) = some (.type "type")), decide (PySem.W.findIn K (.ref (He.ga K "NoChain")) "chain" = some none), decide (PySem.W.findIn K (.ref (He.ga K "NoChain")) "__init__" = some (some (.ref (He.ma K (He.ga K "NoChain") "__init__")))), decide (PySem.W.typeIn K (.ref (He.ma K (He.ga K "NoChain") "__init__")) = some (.type "function")), decide (PySem.W.keepIn K (.ref (He.ga K "_law_numbers")) = true), decide (PySem.W.nsIn K mainGlobals "_law_numbers" = some (some (.ref (He.ga K "_law_numbers")))), decide (PySem.W.keepIn K (.ref (He.ga K "_law_row")) = true), decide (PySem.W.nsIn K mainGlobals "_law_row" = some (some (.ref (He.ga K "_law_row")))), decide (PySem.W.keepIn K (.ref (He.ga K "_law_rows")) = true), decide (PySem.W.nsIn K mainGlobals "_law_rows" = some (some (.ref (He.ga K "_law_rows")))), decide (PySem.W.keepIn K (.ref (He.ga K "_law_cell")) = true), decide (PySem.W.nsIn K mainGlobals "_law_cell" = some (some (.ref (He.ga K "_law_cell")))), decide (PySem.W.keepIn K (.ref (He.ma K (He.ga K "Layout") "__init__")) = true), decide (PySem.W.findIn K (.ref (He.ga K "Layout")) "__init__" = some (some (.ref (He.ma K (He.ga K "Layout") "__init__")))), decide (PySem.W.isFn K (.ref (He.ma K (He.ga K "Layout") "__init__")) = true), decide (PySem.W.keepIn K (.ref (He.ga K "_law_lines")) = true), decide (PySem.W.nsIn K mainGlobals "_law_lines" = some (some (.ref (He.ga K "_law_lines")))), decide (PySem.W.keepIn K (.ref (He.ga K "_law_longer")) = true), decide (PySem.W.nsIn K mainGlobals "_law_longer" = some (some (.ref (He.ga K "_law_longer")))), decide (PySem.W.keepIn K (.ref (He.ga K "_law_keys_of")) = true)]
def ck4 (K : PySem.W.Frag) : List Bool := [decide (PySem.W.nsIn K mainGlobals "_law_keys_of" = some (some (.ref (He.ga K "_law_keys_of")))), decide (PySem.W.keepIn K (.ref (He.ga K "_law_is_chain")) = true), decide (PySem.W.nsIn K mainGlobals "_law_is_chain" = some (some (.ref (He.ga K "_law_is_chain")))), decide (PySem.W.keepIn K (.ref (He.ga K "_law_chains")) = true), decide (PySem.W.nsIn K mainGlobals "_law_chains" = some (some (.ref (He.ga K "_law_chains")))), decide (PySem.W.keepIn K (.ref (He.ga K "_law_drawn")) = true), decide (PySem.W.nsIn K mainGlobals "_law_drawn" = some (some (.ref (He.ga K "_law_drawn")))), decide (PySem.W.keepIn K (.ref (He.ga K "_law_valid")) = true), decide (PySem.W.nsIn K mainGlobals "_law_valid" = some (some (.ref (He.ga K "_law_valid")))), decide (PySem.W.keepIn K (.ref (He.ma K (He.ga K "Layout") "__len__")) = true), decide (PySem.W.findIn K (.ref (He.ga K "Layout")) "__len__" = some (some (.ref (He.ma K (He.ga K "Layout") "__len__")))), decide (PySem.W.isFn K (.ref (He.ma K (He.ga K "Layout") "__len__")) = true), decide (PySem.W.keepIn K (.ref (He.ga K "is_path")) = true), decide (PySem.W.nsIn K mainGlobals "is_path" = some (some (.ref (He.ga K "is_path")))), decide (PySem.W.keepIn K (.ref (He.ga K "lowest")) = true), decide (PySem.W.nsIn K mainGlobals "lowest" = some (some (.ref (He.ga K "lowest")))), decide (PySem.W.keepIn K (.ref (He.ga K "chain_keys")) = true), decide (PySem.W.nsIn K mainGlobals "chain_keys" = some (some (.ref (He.ga K "chain_keys")))), decide (PySem.W.keepIn K (.ref (He.ga K "chain_run")) = true), decide (PySem.W.nsIn K mainGlobals "chain_run" = some (some (.ref (He.ga K "chain_run")))), decide (PySem.W.keepIn K (.ref (He.ga K "_law_refused")) = true), decide (PySem.W.nsIn K mainGlobals "_law_refused" = some (some (.ref (He.ga K "_law_refused")))), decide (PySem.W.keepIn K (.ref (He.ga K "_law_run_of")) = true), decide (PySem.W.nsIn K mainGlobals "_law_run_of" = some (some (.ref (He.ga K "_law_run_of")))), decide (PySem.W.keepIn K (.ref (He.ga K "_law_is_int")) = true), decide (PySem.W.nsIn K mainGlobals "_law_is_int" = some (some (.ref (He.ga K "_law_is_int")))), decide (PySem.W.keepIn K (.ref (He.ga K "_law_same_steps")) = true), decide (PySem.W.nsIn K mainGlobals "_law_same_steps" = some (some (.ref (He.ga K "_law_same_steps")))), decide (PySem.W.keepIn K (.ref (He.ga K "law")) = true), decide (PySem.W.nsIn K mainGlobals "law" = some (some (.ref (He.ga K "law")))), decide (PySem.W.keepIn K (.ref (He.ma K (He.ga K "BadKey") "__init__")) = true), decide (PySem.W.keepIn K (.ref (He.ma K (He.ga K "NoChain") "__init__")) = true)]
def chkZ (K : PySem.W.Frag) : Bool := ((ck0 K).all fun b => b) && (((ck1 K).all fun b => b) && (((ck2 K).all fun b => b) && (((ck3 K).all fun b => b) && (((ck4 K).all fun b => b)))))
def fnZl0 : List (PySem.W.Frag → Addr) := [fun K => He.ga K "_law_numbers", fun K => He.ga K "_law_row", fun K => He.ga K "_law_rows", fun K => He.ga K "_law_cell", fun K => He.ma K (He.ga K "Layout") "__init__", fun K => He.ga K "_law_lines", fun K => He.ga K "_law_longer", fun K => He.ga K "_law_keys_of", fun K => He.ga K "_law_is_chain", fun K => He.ga K "_law_chains", fun K => He.ga K "_law_drawn", fun K => He.ga K "_law_valid", fun K => He.ma K (He.ga K "Layout") "__len__", fun K => He.ga K "is_path", fun K => He.ga K "lowest", fun K => He.ga K "chain_keys", fun K => He.ga K "chain_run", fun K => He.ga K "_law_refused", fun K => He.ga K "_law_run_of", fun K => He.ga K "_law_is_int", fun K => He.ga K "_law_same_steps", fun K => He.ga K "law", fun K => He.ma K (He.ga K "BadKey") "__init__", fun K => He.ma K (He.ga K "NoChain") "__init__"]
def fnZl : List (PySem.W.Frag → Addr) := fnZl0
def vsZl0 : List FnZ := [some ("_law_numbers", "_law_numbers", defArgs s__law_numbers, .stmts (defBody s__law_numbers), defScope s__law_numbers), some ("_law_row", "_law_row", defArgs s__law_row, .stmts (defBody s__law_row), defScope s__law_row), some ("_law_rows", "_law_rows", defArgs s__law_rows, .stmts (defBody s__law_rows), defScope s__law_rows), some ("_law_cell", "_law_cell", defArgs s__law_cell, .stmts (defBody s__law_cell), defScope s__law_cell), some ("__init__", "Layout.__init__", defArgs s_Layout___init__, .stmts (defBody s_Layout___init__), defScope s_Layout___init__), some ("_law_lines", "_law_lines", defArgs s__law_lines, .stmts (defBody s__law_lines), defScope s__law_lines), some ("_law_longer", "_law_longer", defArgs s__law_longer, .stmts (defBody s__law_longer), defScope s__law_longer), some ("_law_keys_of", "_law_keys_of", defArgs s__law_keys_of, .stmts (defBody s__law_keys_of), defScope s__law_keys_of), some ("_law_is_chain", "_law_is_chain", defArgs s__law_is_chain, .stmts (defBody s__law_is_chain), defScope s__law_is_chain), some ("_law_chains", "_law_chains", defArgs s__law_chains, .stmts (defBody s__law_chains), defScope s__law_chains), some ("_law_drawn", "_law_drawn", defArgs s__law_drawn, .stmts (defBody s__law_drawn), defScope s__law_drawn), some ("_law_valid", "_law_valid", defArgs s__law_valid, .stmts (defBody s__law_valid), defScope s__law_valid), some ("__len__", "Layout.__len__", defArgs s_Layout___len__, .stmts (defBody s_Layout___len__), defScope s_Layout___len__), some ("is_path", "is_path", defArgs s_is_path, .stmts (defBody s_is_path), defScope s_is_path), some ("lowest", "lowest", defArgs s_lowest, .stmts (defBody s_lowest), defScope s_lowest), some ("chain_keys", "chain_keys", defArgs s_chain_keys, .stmts (defBody s_chain_keys), defScope s_chain_keys), some ("chain_run", "chain_run", defArgs s_chain_run, .stmts (defBody s_chain_run), defScope s_chain_run), some ("_law_refused", "_law_refused", defArgs s__law_refused, .stmts (defBody s__law_refused), defScope s__law_refused), some ("_law_run_of", "_law_run_of", defArgs s__law_run_of, .stmts (defBody s__law_run_of), defScope s__law_run_of), some ("_law_is_int", "_law_is_int", defArgs s__law_is_int, .stmts (defBody s__law_is_int), defScope s__law_is_int), some ("_law_same_steps", "_law_same_steps", defArgs s__law_same_steps, .stmts (defBody s__law_same_steps), defScope s__law_same_steps), some ("law", "law", defArgs s_law, .stmts (defBody s_law), defScope s_law), some ("__init__", "BadKey.__init__", defArgs s_BadKey___init__, .stmts (defBody s_BadKey___init__), defScope s_BadKey___init__), some ("__init__", "NoChain.__init__", defArgs s_NoChain___init__, .stmts (defBody s_NoChain___init__), defScope s_NoChain___init__)]
def vsZl : List FnZ := vsZl0
def loose0 : List Str := ["_wall", "__name__", "KeeperError", "BadLayout", "BadKey", "NoCopy", "LineError", "NoChain", "lowest", "is_path", "chain_keys", "chain_run", "MOST_COPIES", "MOST_KEYS", "Layout", "_law_is_int", "_law_cell", "_law_numbers", "_law_row", "_law_rows", "_law_lines", "_law_keys_of", "_law_is_chain", "_law_longer", "_law_chains", "_law_run_of", "_law_same_steps", "_law_valid", "_law_refused", "_law_drawn"]
def loose : List Str := loose0
abbrev hk : PySem.W.Hook := hookZ 6 chkZ fnZl vsZl
def obZ (x : PySem.W.SharedT) : Bool × List FnZ := obsZ 6 chkZ fnZl (HandSHeadRun.getT x)
theorem runZ (w : World) : HandSHeadRun.RunEq (PySem.W.OpenLaw.row PySem.Challenge.rw_partkeepers_k23_the_run_of_a_chain) (PySem.W.view (PySem.W.OpenLaw.row PySem.Challenge.rw_partkeepers_k23_the_run_of_a_chain).prog [33]) hk obZ 60000 loose w := by
  intro os
  kernel_rfl
end Z
set_option Elab.async false
set_option linter.all false
set_option maxRecDepth 100000
set_option maxHeartbeats 4000000
namespace Z
open PySem PySem.Spec PyProof.Rows L2
def fn_masks : List Str := ["Layout"]
def fn_rows : List Str := ["Layout"]
def xfn_chain : List Str := ["NoChain"]
def ti_bool : List (CT × Bool) := [(.ty "NoneType", false), (.ty "bool", true), (.ty "int", false), (.ty "str", false), (.ty "bytes", false), (.ty "tuple", false), (.ty "list", false), (.ty "dict", false), (.own "Layout", false)]
def ti_int : List (CT × Bool) := [(.ty "NoneType", false), (.ty "bool", true), (.ty "int", true), (.ty "str", false), (.ty "bytes", false), (.ty "tuple", false), (.ty "list", false), (.ty "dict", false), (.own "Layout", false)]
def ti_list : List (CT × Bool) := [(.ty "NoneType", false), (.ty "bool", false), (.ty "int", false), (.ty "str", false), (.ty "bytes", false), (.ty "tuple", false), (.ty "list", true), (.ty "dict", false), (.own "Layout", false)]
def ti_str : List (CT × Bool) := [(.ty "NoneType", false), (.ty "bool", false), (.ty "int", false), (.ty "str", true), (.ty "bytes", false), (.ty "tuple", false), (.ty "list", false), (.ty "dict", false), (.own "Layout", false)]
def ti_tuple : List (CT × Bool) := [(.ty "NoneType", false), (.ty "bool", false), (.ty "int", false), (.ty "str", false), (.ty "bytes", false), (.ty "tuple", true), (.ty "list", false), (.ty "dict", false), (.own "Layout", false)]
def tx_KeeperError : List (CT × Bool) := [(.own "KeeperError", true), (.own "BadLayout", true), (.own "BadKey", true), (.own "NoCopy", true), (.own "LineError", true), (.own "NoChain", true)]
def tx_LineError : List (CT × Bool) := [(.own "KeeperError", false), (.own "BadLayout", false), (.own "BadKey", false), (.own "NoCopy", false), (.own "LineError", true), (.own "NoChain", false)]
def th_NoChain : List (Str × Bool) := [("KeeperError", false), ("BadLayout", false), ("BadKey", false), ("NoCopy", false), ("LineError", false), ("NoChain", true)]
structure Tx (P : Program) (K : PySem.W.Frag) (mg : Str → Option Value) where
  C_KeeperError : Addr
  C_BadLayout : Addr
  C_BadKey : Addr
  C_NoCopy : Addr
  C_LineError : Addr
  C_NoChain : Addr
  C_Layout : Addr
  f__law_numbers : Addr
  f__law_row : Addr
  f__law_rows : Addr
  f__law_cell : Addr
  f_Layout___init__ : Addr
  f__law_lines : Addr
  f__law_longer : Addr
  f__law_keys_of : Addr
  f__law_is_chain : Addr
  f__law_chains : Addr
  f__law_drawn : Addr
  f__law_valid : Addr
  f_Layout___len__ : Addr
  f_is_path : Addr
  f_lowest : Addr
  f_chain_keys : Addr
  f_chain_run : Addr
  f__law_refused : Addr
  f__law_run_of : Addr
  f__law_is_int : Addr
  f__law_same_steps : Addr
  f_law : Addr
  f_BadKey___init__ : Addr
  f_NoChain___init__ : Addr
  fd__law_numbers : FuncData
  fd__law_row : FuncData
  fd__law_rows : FuncData
  fd__law_cell : FuncData
  fd_Layout___init__ : FuncData
  fd__law_lines : FuncData
  fd__law_longer : FuncData
  fd__law_keys_of : FuncData
  fd__law_is_chain : FuncData
  fd__law_chains : FuncData
  fd__law_drawn : FuncData
  fd__law_valid : FuncData
  fd_Layout___len__ : FuncData
  fd_is_path : FuncData
  fd_lowest : FuncData
  fd_chain_keys : FuncData
  fd_chain_run : FuncData
  fd__law_refused : FuncData
  fd__law_run_of : FuncData
  fd__law_is_int : FuncData
  fd__law_same_steps : FuncData
  fd_law : FuncData
  fd_BadKey___init__ : FuncData
  fd_NoChain___init__ : FuncData
  v_MOST_COPIES : ∃ t, mg "MOST_COPIES" = some (.int 6 t)
  v_MOST_KEYS : ∃ t, mg "MOST_KEYS" = some (.int 8 t)
  n_all : mg "all" = none
  n_any : mg "any" = none
  n_bool : mg "bool" = none
  n_int : mg "int" = none
  n_isinstance : mg "isinstance" = none
  n_len : mg "len" = none
  n_list : mg "list" = none
  n_range : mg "range" = none
  n_set : mg "set" = none
  n_str : mg "str" = none
  n_sum : mg "sum" = none
  n_tuple : mg "tuple" = none
  c_KeeperError : mg "KeeperError" = some (.ref C_KeeperError)
  kp_KeeperError : PySem.W.keepIn K (.ref C_KeeperError) = true
  c_BadLayout : mg "BadLayout" = some (.ref C_BadLayout)
  kp_BadLayout : PySem.W.keepIn K (.ref C_BadLayout) = true
  c_BadKey : mg "BadKey" = some (.ref C_BadKey)
  kp_BadKey : PySem.W.keepIn K (.ref C_BadKey) = true
  c_NoCopy : mg "NoCopy" = some (.ref C_NoCopy)
  kp_NoCopy : PySem.W.keepIn K (.ref C_NoCopy) = true
  c_LineError : mg "LineError" = some (.ref C_LineError)
  kp_LineError : PySem.W.keepIn K (.ref C_LineError) = true
  c_NoChain : mg "NoChain" = some (.ref C_NoChain)
  kp_NoChain : PySem.W.keepIn K (.ref C_NoChain) = true
  c_Layout : mg "Layout" = some (.ref C_Layout)
  kp_Layout : PySem.W.keepIn K (.ref C_Layout) = true
  cl_Layout : Cls K C_Layout
  mk_Layout : PySem.W.makesIn K C_Layout = true
  in_Layout : C8.InsC K C_Layout
  fd_masks : ClsN K mg fn_masks "masks"
  fd_rows : ClsN K mg fn_rows "rows"
  xf_chain : XfN K mg xfn_chain "chain"
  ist_bool : IsTab K mg (.type "bool") ti_bool
  ist_int : IsTab K mg (.type "int") ti_int
  ist_list : IsTab K mg (.type "list") ti_list
  ist_str : IsTab K mg (.type "str") ti_str
  ist_tuple : IsTab K mg (.type "tuple") ti_tuple
  isx_KeeperError : IsTabX K mg (.ref C_KeeperError) tx_KeeperError
  isx_LineError : IsTabX K mg (.ref C_LineError) tx_LineError
  hd_NoChain : HdTab K mg (.ref C_NoChain) th_NoChain
  ox_BadKey : OexC K C_BadKey
  xn_BadKey : ∀ f ∈ (["key"] : List Str), PySem.W.findIn K (.ref C_BadKey) f = some none
  xf1_BadKey : PySem.W.findIn K (.ref C_BadKey) "__init__" = some (some (.ref f_BadKey___init__))
  xf2_BadKey : PySem.W.typeIn K (.ref f_BadKey___init__) = some (.type "function")
  xi_BadLayout : PySem.W.excIn K C_BadLayout [.type "ValueError", .type "Exception", .type "BaseException", .type "object"] "ValueError.__new__" = true
  xb_BadLayout : PySem.W.subIn K (.ref C_BadLayout) (.type "BaseException") = some true
  xt_BadLayout : PySem.W.typeIn K (.ref C_BadLayout) = some (.type "type")
  ox_NoChain : OexC K C_NoChain
  xn_NoChain : ∀ f ∈ (["chain"] : List Str), PySem.W.findIn K (.ref C_NoChain) f = some none
  xf1_NoChain : PySem.W.findIn K (.ref C_NoChain) "__init__" = some (some (.ref f_NoChain___init__))
  xf2_NoChain : PySem.W.typeIn K (.ref f_NoChain___init__) = some (.type "function")
  F__law_numbers : Fun K "_law_numbers" "_law_numbers" s__law_numbers f__law_numbers fd__law_numbers
  b__law_numbers : Binds K fd__law_numbers ["_law_cell_here", "_law_salt", "_law_limits"] []
  g__law_numbers : mg "_law_numbers" = some (.ref f__law_numbers)
  F__law_row : Fun K "_law_row" "_law_row" s__law_row f__law_row fd__law_row
  b__law_row : Binds K fd__law_row ["_law_kind", "_law_copy", "_law_many", "_law_number"] []
  g__law_row : mg "_law_row" = some (.ref f__law_row)
  F__law_rows : Fun K "_law_rows" "_law_rows" s__law_rows f__law_rows fd__law_rows
  b__law_rows : Binds K fd__law_rows ["_law_cell_here", "_law_least", "_law_top"] []
  g__law_rows : mg "_law_rows" = some (.ref f__law_rows)
  F__law_cell : Fun K "_law_cell" "_law_cell" s__law_cell f__law_cell fd__law_cell
  b__law_cell : Binds K fd__law_cell ["_law_script", "_law_k"] []
  g__law_cell : mg "_law_cell" = some (.ref f__law_cell)
  F_Layout___init__ : Fun K "__init__" "Layout.__init__" s_Layout___init__ f_Layout___init__ fd_Layout___init__
  b_Layout___init__ : Binds K fd_Layout___init__ ["self", "rows"] []
  mt_Layout___init__ : Meth K C_Layout "__init__" f_Layout___init__
  F__law_lines : Fun K "_law_lines" "_law_lines" s__law_lines f__law_lines fd__law_lines
  b__law_lines : Binds K fd__law_lines ["_law_rows_here"] []
  g__law_lines : mg "_law_lines" = some (.ref f__law_lines)
  F__law_longer : Fun K "_law_longer" "_law_longer" s__law_longer f__law_longer fd__law_longer
  b__law_longer : Binds K fd__law_longer ["_law_paths", "_law_many", "_law_taker"] []
  g__law_longer : mg "_law_longer" = some (.ref f__law_longer)
  F__law_keys_of : Fun K "_law_keys_of" "_law_keys_of" s__law_keys_of f__law_keys_of fd__law_keys_of
  b__law_keys_of : Binds K fd__law_keys_of ["_law_rows_here", "_law_one", "_law_two", "_law_away"] []
  g__law_keys_of : mg "_law_keys_of" = some (.ref f__law_keys_of)
  F__law_is_chain : Fun K "_law_is_chain" "_law_is_chain" s__law_is_chain f__law_is_chain fd__law_is_chain
  b__law_is_chain : Binds K fd__law_is_chain ["_law_rows_here", "_law_chain"] []
  g__law_is_chain : mg "_law_is_chain" = some (.ref f__law_is_chain)
  F__law_chains : Fun K "_law_chains" "_law_chains" s__law_chains f__law_chains fd__law_chains
  b__law_chains : Binds K fd__law_chains ["_law_rows_here", "_law_sender", "_law_taker"] []
  g__law_chains : mg "_law_chains" = some (.ref f__law_chains)
  F__law_drawn : Fun K "_law_drawn" "_law_drawn" s__law_drawn f__law_drawn fd__law_drawn
  b__law_drawn : Binds K fd__law_drawn ["_law_rows_here", "_law_numbers_here"] []
  g__law_drawn : mg "_law_drawn" = some (.ref f__law_drawn)
  F__law_valid : Fun K "_law_valid" "_law_valid" s__law_valid f__law_valid fd__law_valid
  b__law_valid : Binds K fd__law_valid ["_law_rows_here", "_law_chain"] []
  g__law_valid : mg "_law_valid" = some (.ref f__law_valid)
  F_Layout___len__ : Fun K "__len__" "Layout.__len__" s_Layout___len__ f_Layout___len__ fd_Layout___len__
  b_Layout___len__ : Binds K fd_Layout___len__ ["self"] []
  mt_Layout___len__ : Meth K C_Layout "__len__" f_Layout___len__
  F_is_path : Fun K "is_path" "is_path" s_is_path f_is_path fd_is_path
  b_is_path : Binds K fd_is_path ["layout", "chain"] []
  g_is_path : mg "is_path" = some (.ref f_is_path)
  F_lowest : Fun K "lowest" "lowest" s_lowest f_lowest fd_lowest
  b_lowest : Binds K fd_lowest ["mask"] []
  g_lowest : mg "lowest" = some (.ref f_lowest)
  F_chain_keys : Fun K "chain_keys" "chain_keys" s_chain_keys f_chain_keys fd_chain_keys
  b_chain_keys : Binds K fd_chain_keys ["layout", "chain"] []
  g_chain_keys : mg "chain_keys" = some (.ref f_chain_keys)
  F_chain_run : Fun K "chain_run" "chain_run" s_chain_run f_chain_run fd_chain_run
  b_chain_run : Binds K fd_chain_run ["layout", "chain"] []
  g_chain_run : mg "chain_run" = some (.ref f_chain_run)
  F__law_refused : Fun K "_law_refused" "_law_refused" s__law_refused f__law_refused fd__law_refused
  b__law_refused : Binds K fd__law_refused ["_law_layout", "_law_chain"] []
  g__law_refused : mg "_law_refused" = some (.ref f__law_refused)
  F__law_run_of : Fun K "_law_run_of" "_law_run_of" s__law_run_of f__law_run_of fd__law_run_of
  b__law_run_of : Binds K fd__law_run_of ["_law_rows_here", "_law_chain"] []
  g__law_run_of : mg "_law_run_of" = some (.ref f__law_run_of)
  F__law_is_int : Fun K "_law_is_int" "_law_is_int" s__law_is_int f__law_is_int fd__law_is_int
  b__law_is_int : Binds K fd__law_is_int ["_law_given"] []
  g__law_is_int : mg "_law_is_int" = some (.ref f__law_is_int)
  F__law_same_steps : Fun K "_law_same_steps" "_law_same_steps" s__law_same_steps f__law_same_steps fd__law_same_steps
  b__law_same_steps : Binds K fd__law_same_steps ["_law_told", "_law_due"] []
  g__law_same_steps : mg "_law_same_steps" = some (.ref f__law_same_steps)
  F_law : Fun K "law" "law" s_law f_law fd_law
  b_law : Binds K fd_law ["_law_script"] []
  F_BadKey___init__ : Fun K "__init__" "BadKey.__init__" s_BadKey___init__ f_BadKey___init__ fd_BadKey___init__
  b_BadKey___init__ : Binds K fd_BadKey___init__ ["self", "key"] []
  F_NoChain___init__ : Fun K "__init__" "NoChain.__init__" s_NoChain___init__ f_NoChain___init__ fd_NoChain___init__
  b_NoChain___init__ : Binds K fd_NoChain___init__ ["self", "chain"] []
section
variable {P : Program} {w : World} {K : PySem.W.Frag} {mg : Str → Option Value} {base : Heap}
theorem sc_BadKey___init__ : FnScope ["self", "key"] ["self", "key"] (defScope s_BadKey___init__) := ⟨rfl, rfl, rfl, by decide +kernel, rfl, by decide +kernel, by decide +kernel⟩
theorem xok_BadKey (T : Tx P K mg) : FnOk P w K mg base (L2.CX P w) 1 T.f_BadKey___init__ T.fd_BadKey___init__ ["self", "key"] (spXI K ["key"]) := xi1 T.F_BadKey___init__ sc_BadKey___init__ fun cdv A outer s H E hr => pss_one (ps_ost (pv 0) (pv 1) rfl)
theorem sc_NoChain___init__ : FnScope ["self", "chain"] ["self", "chain"] (defScope s_NoChain___init__) := ⟨rfl, rfl, rfl, by decide +kernel, rfl, by decide +kernel, by decide +kernel⟩
theorem xok_NoChain (T : Tx P K mg) : FnOk P w K mg base (L2.CX P w) 1 T.f_NoChain___init__ T.fd_NoChain___init__ ["self", "chain"] (spXI K ["chain"]) := xi1 T.F_NoChain___init__ sc_NoChain___init__ fun cdv A outer s H E hr => pss_one (ps_ost (pv 0) (pv 1) rfl)
theorem sc__law_numbers : FnScope ["_law_cell_here", "_law_salt", "_law_limits", "_law_rest", "_law_found", "_law_limit"] ["_law_cell_here", "_law_salt", "_law_limits"] (defScope s__law_numbers) := ⟨rfl, rfl, rfl, by decide +kernel, rfl, by decide +kernel, by decide +kernel⟩
noncomputable def b__law_numbers : Mo Fl := mSeq (mAsg 3 (mName 0)) (mSeq (mAsg 4 (mLst mNil)) (mSeq (mFor (mIter (mName 2)) (tgN 5) (mIf (mB (mBin fLt (mName 0) (mBin fPow (mC (.int 10)) (mC (.int 18))))) (mSeq (mAsg 3 (mBin fMod (mCB fInt1 (mCons (mBin fAdd (mBin fAdd (mBin fMul (mName 3) (mC (.int 75))) (mC (.int 74))) (mName 1)) mNil)) (mC (.int 65537)))) (mDrop (mMut .lst fAppend (mName 4) (mCons (mBin fMod (mCB fInt1 (mCons (mBin fDiv (mName 3) (mC (.int 7))) mNil)) (mName 5)) mNil)))) (mSeq (mDrop (mMut .lst fAppend (mName 4) (mCons (mBin fMod (mCB fInt1 (mCons (mName 3) mNil)) (mName 5)) mNil))) (mAsg 3 (mBin fDiv (mName 3) (mName 5)))))) (mRet (mName 4))))
noncomputable def m__law_numbers : Fn := fnM 6 b__law_numbers
theorem ok__law_numbers (T : Tx P K mg) : FnM P w K mg base 1 T.f__law_numbers T.fd__law_numbers ["_law_cell_here", "_law_salt", "_law_limits"] m__law_numbers := have sc := sc__law_numbers; defM2 T.F__law_numbers sc rfl fun cdv A outer s H E hr hu tk pa => pess_cons (pes_set 3 sc.nd (pee_name 0)) (pess_cons (pes_set 4 sc.nd (pee_lst pea_nil)) (pess_cons (pes_for pa (pei_seq (pee_name 2)) (peg_name 5 sc.nd) (pess_one (pes_if (pet_cmp om_lt (pee_name 0) (pee_op om_pow pee_int pee_int)) (pess_cons (pes_set 3 sc.nd (pee_op om_mod (pee_ct cm_int T.n_int (pea_cons (pee_op om_add (pee_op om_add (pee_op om_mul (pee_name 3) pee_int) pee_int) (pee_name 1)) pea_nil)) pee_int)) (pess_one (pes_expr (pee_mut (k := .lst) PySem.F.plainAttrs_list PySem.F.slot_list_append PySem.F.type_list_append mt_append mu_append (pee_name 4) (pea_cons (pee_op om_mod (pee_ct cm_int T.n_int (pea_cons (pee_op om_div (pee_name 3) pee_int) pea_nil)) (pee_name 5)) pea_nil))))) (pess_cons (pes_expr (pee_mut (k := .lst) PySem.F.plainAttrs_list PySem.F.slot_list_append PySem.F.type_list_append mt_append mu_append (pee_name 4) (pea_cons (pee_op om_mod (pee_ct cm_int T.n_int (pea_cons (pee_name 3) pea_nil)) (pee_name 5)) pea_nil))) (pess_one (pes_set 3 sc.nd (pee_op om_div (pee_name 3) (pee_name 5)))))))) (pess_one (pes_ret (pee_name 4)))))
theorem sc__law_row : FnScope ["_law_kind", "_law_copy", "_law_many", "_law_number", "_law_mine", "_law_size", "_law_key"] ["_law_kind", "_law_copy", "_law_many", "_law_number"] (defScope s__law_row) := ⟨rfl, rfl, rfl, by decide +kernel, rfl, by decide +kernel, by decide +kernel⟩
noncomputable def b__law_row : Mo Fl := mSeq (mIf (mOr (mB (mBin fEqD (mName 0) (mC (.int 0)))) (mB (mBin fEqD (mName 0) (mC (.int 5))))) (mSeq (mAsg 5 (mIfE (mB (mBin fEqD (mName 0) (mC (.int 0)))) (mC (.int 8)) (mC (.int 3)))) (mRet (mLc [6] (mRng1 (mCons (mName 5) mNil)) (tgN 6) (mB (mBin fEqD (mBin fMod (mCB fInt1 (mCons (mBin fShr (mName 3) (mName 6)) mNil)) (mC (.int 2))) (mC (.int 1)))) (mName 6)))) mNext) (mSeq (mAsg 4 (mLst (mCons (mBin fMod (mCB fInt1 (mCons (mBin fDiv (mName 3) (mC (.int 8))) mNil)) (mC (.int 8))) mNil))) (mSeq (mIf (mB (mBin fEqD (mName 0) (mC (.int 1)))) (mAsg 4 (mLst (mCons (mName 1) (mCons (mBin fAdd (mName 1) (mC (.int 1))) mNil)))) mNext) (mSeq (mIf (mB (mBin fEqD (mName 0) (mC (.int 2)))) (mAsg 4 (mIfE (mB (mBin fEqD (mName 1) (mC (.int 0)))) (mUn fLr1 (mBin fSub (mName 2) (mC (.int 1)))) (mLst (mCons (mBin fSub (mName 1) (mC (.int 1))) mNil)))) mNext) (mSeq (mIf (mB (mBin fEqD (mName 0) (mC (.int 4)))) (mAsg 4 (mLst (mCons (mName 1) (mCons (mBin fMod (mCB fInt1 (mCons (mBin fAdd (mName 1) (mC (.int 1))) mNil)) (mName 2)) mNil)))) mNext) (mSeq (mIf (mOr (mB (mBin fEqD (mName 0) (mC (.int 3)))) (mB (mBin fEqD (mBin fMod (mCB fInt1 (mCons (mBin fDiv (mName 3) (mC (.int 8))) mNil)) (mC (.int 4))) (mC (.int 0))))) (mAsg 4 (mBin fAdd (mName 4) (mLst (mCons (mBin fMod (mCB fInt1 (mCons (mName 3) mNil)) (mC (.int 8))) mNil)))) mNext) (mRet (mLc [6] (mRng1 (mCons (mC (.int 8)) mNil)) (tgN 6) (mB (mBin (fIn false) (mName 6) (mName 4))) (mName 6))))))))
noncomputable def m__law_row : Fn := fnM 7 b__law_row
theorem ok__law_row (T : Tx P K mg) : FnM P w K mg base 1 T.f__law_row T.fd__law_row ["_law_kind", "_law_copy", "_law_many", "_law_number"] m__law_row := have sc := sc__law_row; defM2 T.F__law_row sc rfl fun cdv A outer s H E hr hu tk pa => pess_cons (pes_if ((pew_or (pet_cmp (om_eqD (hu64 hu)) (pee_name 0) pee_int) (pew_or1 (pet_cmp (om_eqD (hu64 hu)) (pee_name 0) pee_int))).pt) (pess_cons (pes_set 5 sc.nd (pee_ife (pet_cmp (om_eqD (hu64 hu)) (pee_name 0) pee_int) pee_int pee_int)) (pess_one (pes_ret (pee_lc sc.nd (own := [("_law_key", 6)]) (l := [6]) (pei_rng1 T.n_range (pea_cons (pee_name 5) pea_nil)) ⟨⟨rfl, by first | decide +kernel | (dsimp only [cxOf, envOfC, compEnvC, relabel]; decide +kernel) | exact of_decide_eq_true (by kernel_rfl), by first | decide +kernel | (dsimp only [cxOf, envOfC, compEnvC, relabel]; decide +kernel) | exact of_decide_eq_true (by kernel_rfl), by first | decide +kernel | (dsimp only [cxOf, envOfC, compEnvC, relabel]; decide +kernel) | exact of_decide_eq_true (by kernel_rfl), by first | decide +kernel | (dsimp only [cxOf, envOfC, compEnvC, relabel]; decide +kernel) | exact of_decide_eq_true (by kernel_rfl)⟩, (tgN_ne _), by decide, fun _ _ _ _ _ => by exact peg_name 6 sc.nd, fun _ _ _ _ _ => by exact pets_one (pet_cmp (om_eqD (hu64 hu)) (pee_op om_mod (pee_ct cm_int T.n_int (pea_cons (pee_op om_shr (pee_name 3) (pee_name 6)) pea_nil)) pee_int) pee_int), fun _ _ _ _ _ => by exact pee_name 6⟩)))) pess_nil) (pess_cons (pes_set 4 sc.nd (pee_lst (pea_cons (pee_op om_mod (pee_ct cm_int T.n_int (pea_cons (pee_op om_div (pee_name 3) pee_int) pea_nil)) pee_int) pea_nil))) (pess_cons (pes_if (pet_cmp (om_eqD (hu64 hu)) (pee_name 0) pee_int) (pess_one (pes_set 4 sc.nd (pee_lst (pea_cons (pee_name 1) (pea_cons (pee_op om_add (pee_name 1) pee_int) pea_nil))))) pess_nil) (pess_cons (pes_if (pet_cmp (om_eqD (hu64 hu)) (pee_name 0) pee_int) (pess_one (pes_set 4 sc.nd (pee_ife (pet_cmp (om_eqD (hu64 hu)) (pee_name 1) pee_int) (pee_lr1 T.n_list T.n_range (pee_op om_sub (pee_name 2) pee_int)) (pee_lst (pea_cons (pee_op om_sub (pee_name 1) pee_int) pea_nil))))) pess_nil) (pess_cons (pes_if (pet_cmp (om_eqD (hu64 hu)) (pee_name 0) pee_int) (pess_one (pes_set 4 sc.nd (pee_lst (pea_cons (pee_name 1) (pea_cons (pee_op om_mod (pee_ct cm_int T.n_int (pea_cons (pee_op om_add (pee_name 1) pee_int) pea_nil)) (pee_name 2)) pea_nil))))) pess_nil) (pess_cons (pes_if ((pew_or (pet_cmp (om_eqD (hu64 hu)) (pee_name 0) pee_int) (pew_or1 (pet_cmp (om_eqD (hu64 hu)) (pee_op om_mod (pee_ct cm_int T.n_int (pea_cons (pee_op om_div (pee_name 3) pee_int) pea_nil)) pee_int) pee_int))).pt) (pess_one (pes_set 4 sc.nd (pee_op om_add (pee_name 4) (pee_lst (pea_cons (pee_op om_mod (pee_ct cm_int T.n_int (pea_cons (pee_name 3) pea_nil)) pee_int) pea_nil))))) pess_nil) (pess_one (pes_ret (pee_lc sc.nd (own := [("_law_key", 6)]) (l := [6]) (pei_rng1 T.n_range (pea_cons pee_int pea_nil)) ⟨⟨rfl, by first | decide +kernel | (dsimp only [cxOf, envOfC, compEnvC, relabel]; decide +kernel) | exact of_decide_eq_true (by kernel_rfl), by first | decide +kernel | (dsimp only [cxOf, envOfC, compEnvC, relabel]; decide +kernel) | exact of_decide_eq_true (by kernel_rfl), by first | decide +kernel | (dsimp only [cxOf, envOfC, compEnvC, relabel]; decide +kernel) | exact of_decide_eq_true (by kernel_rfl), by first | decide +kernel | (dsimp only [cxOf, envOfC, compEnvC, relabel]; decide +kernel) | exact of_decide_eq_true (by kernel_rfl)⟩, (tgN_ne _), by decide, fun _ _ _ _ _ => by exact peg_name 6 sc.nd, fun _ _ _ _ _ => by exact pets_one (pet_cmp (om_in (hu65 hu)) (pee_name 6) (pee_name 4)), fun _ _ _ _ _ => by exact pee_name 6⟩))))))))
theorem sc__law_rows : FnScope ["_law_cell_here", "_law_least", "_law_top", "_law_numbers_here", "_law_many", "_law_copy"] ["_law_cell_here", "_law_least", "_law_top"] (defScope s__law_rows) := ⟨rfl, rfl, rfl, by decide +kernel, rfl, by decide +kernel, by decide +kernel⟩
noncomputable def b__law_rows : Mo Fl := mSeq (mAsg 3 (mCall 3 m__law_numbers (mCons (mName 0) (mCons (mC (.int 1)) (mCons (mBin fAdd (mLst (mCons (mC (.int 6)) (mCons (mBin fSub (mBin fAdd (mC (.int 1)) (mName 2)) (mName 1)) mNil))) (mBin fMul (mLst (mCons (mC (.int 256)) mNil)) (mC (.int 6)))) mNil))))) (mSeq (mAsg 4 (mBin fAdd (mName 1) (mBin fIx (mName 3) (mC (.int 1))))) (mRet (mLc [5] (mRng1 (mCons (mName 4) mNil)) (tgN 5) mYes (mCall 4 m__law_row (mCons (mBin fIx (mName 3) (mC (.int 0))) (mCons (mName 5) (mCons (mName 4) (mCons (mBin fIx (mName 3) (mBin fAdd (mC (.int 2)) (mName 5))) mNil))))))))
noncomputable def m__law_rows : Fn := fnM 6 b__law_rows
theorem ok__law_rows (T : Tx P K mg) : FnM P w K mg base 2 T.f__law_rows T.fd__law_rows ["_law_cell_here", "_law_least", "_law_top"] m__law_rows := have sc := sc__law_rows; defM2 T.F__law_rows sc rfl fun cdv A outer s H E hr hu tk pa => pess_cons (pes_set 3 sc.nd (pee_callN rfl (ok__law_numbers T) (hr.mono (by decide)) T.g__law_numbers T.F__law_numbers.kp T.b__law_numbers tk (pea_cons (pee_name 0) (pea_cons pee_int (pea_cons (pee_op om_add (pee_lst (pea_cons pee_int (pea_cons (pee_op om_sub (pee_op om_add pee_int (pee_name 2)) (pee_name 1)) pea_nil))) (pee_op om_mul (pee_lst (pea_cons pee_int pea_nil)) pee_int)) pea_nil))))) (pess_cons (pes_set 4 sc.nd (pee_op om_add (pee_name 1) (pee_ix (xm_ix (hu1 hu)) (pee_name 3) pee_int))) (pess_one (pes_ret (pee_lc sc.nd (own := [("_law_copy", 5)]) (l := [5]) (pei_rng1 T.n_range (pea_cons (pee_name 4) pea_nil)) ⟨⟨rfl, by first | decide +kernel | (dsimp only [cxOf, envOfC, compEnvC, relabel]; decide +kernel) | exact of_decide_eq_true (by kernel_rfl), by first | decide +kernel | (dsimp only [cxOf, envOfC, compEnvC, relabel]; decide +kernel) | exact of_decide_eq_true (by kernel_rfl), by first | decide +kernel | (dsimp only [cxOf, envOfC, compEnvC, relabel]; decide +kernel) | exact of_decide_eq_true (by kernel_rfl), by first | decide +kernel | (dsimp only [cxOf, envOfC, compEnvC, relabel]; decide +kernel) | exact of_decide_eq_true (by kernel_rfl)⟩, (tgN_ne _), by decide, fun _ _ _ _ _ => by exact peg_name 5 sc.nd, fun _ _ _ _ _ => by exact pets_nil, fun _ _ _ _ _ => by exact pee_callN rfl (ok__law_row T) (hr.mono (by decide)) T.g__law_row T.F__law_row.kp T.b__law_row tk0 (pea_cons (pee_ix (xm_ix (hu1 hu)) (pee_name 3) pee_int) (pea_cons (pee_name 5) (pea_cons (pee_name 4) (pea_cons (pee_ix (xm_ix (hu1 hu)) (pee_name 3) (pee_op om_add pee_int (pee_name 5))) pea_nil))))⟩))))
theorem sc__law_cell : FnScope ["_law_script", "_law_k"] ["_law_script", "_law_k"] (defScope s__law_cell) := ⟨rfl, rfl, rfl, by decide +kernel, rfl, by decide +kernel, by decide +kernel⟩
noncomputable def b__law_cell : Mo Fl := mSeq (mIf (mB (mBin fLt (mName 1) (mCB fLen (mCons (mName 0) mNil)))) (mRet (mBin fIx (mName 0) (mName 1))) mNext) (mRet (mC (.int 0)))
noncomputable def m__law_cell : Fn := fnM 2 b__law_cell
theorem ok__law_cell (T : Tx P K mg) : FnM P w K mg base 1 T.f__law_cell T.fd__law_cell ["_law_script", "_law_k"] m__law_cell := have sc := sc__law_cell; defM2 T.F__law_cell sc rfl fun cdv A outer s H E hr hu tk pa => pess_cons (pes_if (pet_cmp om_lt (pee_name 1) (pee_cb cm_len T.n_len (pea_cons (pee_name 0) pea_nil))) (pess_one (pes_ret (pee_ix (xm_ix (hu1 hu)) (pee_name 0) (pee_name 1)))) pess_nil) (pess_one (pes_ret pee_int))
theorem sc_Layout___init__ : FnScope ["self", "rows", "kept", "row", "key"] ["self", "rows"] (defScope s_Layout___init__) := ⟨rfl, rfl, rfl, by decide +kernel, rfl, by decide +kernel, by decide +kernel⟩
noncomputable def b_Layout___init__ : Mo Fl := mSeq (mIf (mNot (mB (mChain fLe fLe (mC (.int 1)) (mCB fLen (mCons (mName 1) mNil)) (mC (.int 6))))) (mRaise0 "BadLayout") mNext) (mSeq (mAsg 2 (mLst mNil)) (mSeq (mFor (mIter (mName 1)) (tgN 3) (mSeq (mFor (mIter (mName 3)) (tgN 4) (mIf (mNot (mB (mChain fLe fLt (mC (.int 0)) (mName 4) (mC (.int 8))))) (mRaise "BadKey" ["key"] (mCons (mName 4) mNil)) mNext)) (mDrop (mMut .lst fAppend (mName 2) (mCons (mCB fTuple (mCons (mLc [4] (mRng1 (mCons (mC (.int 8)) mNil)) (tgN 4) (mB (mBin (fIn false) (mName 4) (mName 3))) (mName 4)) mNil)) mNil))))) (mSeq (mSetF fn_rows "rows" (mName 0) (mName 2)) (mSetF fn_masks "masks" (mName 0) (mLc [3] (mIter (mName 2)) (tgN 3) mYes (mCB fSum (mCons (mLc [4] (mIter (mName 3)) (tgN 4) mYes (mBin fShl (mC (.int 1)) (mName 4))) mNil)))))))
noncomputable def m_Layout___init__ : Fn := fnM 5 b_Layout___init__
theorem ok_Layout___init__ (T : Tx P K mg) : FnM P w K mg base 3 T.f_Layout___init__ T.fd_Layout___init__ ["self", "rows"] m_Layout___init__ := have sc := sc_Layout___init__; defM2 T.F_Layout___init__ sc rfl fun cdv A outer s H E hr hu tk pa => pess_cons (pes_if (pet_not (pet_chain om_le om_le pee_int (pee_cb cm_len T.n_len (pea_cons (pee_name 1) pea_nil)) (pee_gint T.v_MOST_COPIES))) (pess_one (pes_raiseT T.c_BadLayout PySem.F.excBase_ValueError T.xi_BadLayout T.kp_BadLayout (raises_own T.xb_BadLayout T.xt_BadLayout) tk)) pess_nil) (pess_cons (pes_set 2 sc.nd (pee_lst pea_nil)) (pess_cons (pes_for pa (pei_seq (pee_name 1)) (peg_name 3 sc.nd) (pess_cons (pes_for pa (pei_seq (pee_name 3)) (peg_name 4 sc.nd) (pess_one (pes_if (pet_not (pet_chain om_le om_lt pee_int (pee_name 4) (pee_gint T.v_MOST_KEYS))) (pess_one (pes_raise (fs := ["key"]) T.c_BadKey T.ox_BadKey T.xn_BadKey (by decide) T.xf1_BadKey T.xf2_BadKey (xok_BadKey T) (hr.mono (by decide)) T.b_BadKey___init__ tk (pea_cons (pee_name 4) pea_nil))) pess_nil))) (pess_one (pes_expr (pee_mut (k := .lst) PySem.F.plainAttrs_list PySem.F.slot_list_append PySem.F.type_list_append mt_append mu_append (pee_name 2) (pea_cons (pee_ct cm_tuple T.n_tuple (pea_cons (pee_lc sc.nd (own := [("key", 4)]) (l := [4]) (pei_rng1 T.n_range (pea_cons (pee_gint T.v_MOST_KEYS) pea_nil)) ⟨⟨rfl, by first | decide +kernel | (dsimp only [cxOf, envOfC, compEnvC, relabel]; decide +kernel) | exact of_decide_eq_true (by kernel_rfl), by first | decide +kernel | (dsimp only [cxOf, envOfC, compEnvC, relabel]; decide +kernel) | exact of_decide_eq_true (by kernel_rfl), by first | decide +kernel | (dsimp only [cxOf, envOfC, compEnvC, relabel]; decide +kernel) | exact of_decide_eq_true (by kernel_rfl), by first | decide +kernel | (dsimp only [cxOf, envOfC, compEnvC, relabel]; decide +kernel) | exact of_decide_eq_true (by kernel_rfl)⟩, (tgN_ne _), by decide, fun _ _ _ _ _ => by exact peg_name 4 sc.nd, fun _ _ _ _ _ => by exact pets_one (pet_cmp (om_in (hu65 hu)) (pee_name 4) (pee_name 3)), fun _ _ _ _ _ => by exact pee_name 4⟩) pea_nil)) pea_nil)))))) (pess_cons (pes_fld T.fd_rows (pee_name 0) (pee_name 2)) (pess_one (pes_fld T.fd_masks (pee_name 0) (pee_lc sc.nd (own := [("row", 3)]) (l := [3]) (pei_seq (pee_name 2)) ⟨⟨rfl, by first | decide +kernel | (dsimp only [cxOf, envOfC, compEnvC, relabel]; decide +kernel) | exact of_decide_eq_true (by kernel_rfl), by first | decide +kernel | (dsimp only [cxOf, envOfC, compEnvC, relabel]; decide +kernel) | exact of_decide_eq_true (by kernel_rfl), by first | decide +kernel | (dsimp only [cxOf, envOfC, compEnvC, relabel]; decide +kernel) | exact of_decide_eq_true (by kernel_rfl), by first | decide +kernel | (dsimp only [cxOf, envOfC, compEnvC, relabel]; decide +kernel) | exact of_decide_eq_true (by kernel_rfl)⟩, (tgN_ne _), by decide, fun _ _ _ _ _ => by exact peg_name 3 sc.nd, fun _ _ _ _ _ => by exact pets_nil, fun _ _ _ _ _ => by exact pee_cb cm_sum T.n_sum (pea_cons (pee_lc sc.nd (own := [("key", 4)]) (l := [4]) (pei_seq (pee_name 3)) ⟨⟨rfl, by first | decide +kernel | (dsimp only [cxOf, envOfC, compEnvC, relabel]; decide +kernel) | exact of_decide_eq_true (by kernel_rfl), by first | decide +kernel | (dsimp only [cxOf, envOfC, compEnvC, relabel]; decide +kernel) | exact of_decide_eq_true (by kernel_rfl), by first | decide +kernel | (dsimp only [cxOf, envOfC, compEnvC, relabel]; decide +kernel) | exact of_decide_eq_true (by kernel_rfl), by first | decide +kernel | (dsimp only [cxOf, envOfC, compEnvC, relabel]; decide +kernel) | exact of_decide_eq_true (by kernel_rfl)⟩, (tgN_ne _), by decide, fun _ _ _ _ _ => by exact peg_name 4 sc.nd, fun _ _ _ _ _ => by exact pets_nil, fun _ _ _ _ _ => by exact pee_op om_shl pee_int (pee_name 4)⟩) pea_nil)⟩))))))
theorem sc__law_lines : FnScope ["_law_rows_here", "_law_found", "_law_sender", "_law_taker", "_law_key"] ["_law_rows_here"] (defScope s__law_lines) := ⟨rfl, rfl, rfl, by decide +kernel, rfl, by decide +kernel, by decide +kernel⟩
noncomputable def b__law_lines : Mo Fl := mSeq (mAsg 1 (mLst mNil)) (mSeq (mFor (mRng1 (mCons (mCB fLen (mCons (mName 0) mNil)) mNil)) (tgN 2) (mFor (mRng1 (mCons (mCB fLen (mCons (mName 0) mNil)) mNil)) (tgN 3) (mIf (mAnd (mB (mBin fNeD (mName 2) (mName 3))) (mB (mBin fNeD (mLc [4] (mIter (mBin fIx (mName 0) (mName 2))) (tgN 4) (mB (mBin (fIn false) (mName 4) (mBin fIx (mName 0) (mName 3)))) (mName 4)) (mLst mNil)))) (mDrop (mMut .lst fAppend (mName 1) (mCons (mTup (mCons (mName 2) (mCons (mName 3) mNil))) mNil))) mNext))) (mRet (mName 1)))
noncomputable def m__law_lines : Fn := fnM 5 b__law_lines
theorem ok__law_lines (T : Tx P K mg) : FnM P w K mg base 1 T.f__law_lines T.fd__law_lines ["_law_rows_here"] m__law_lines := have sc := sc__law_lines; defM2 T.F__law_lines sc rfl fun cdv A outer s H E hr hu tk pa => pess_cons (pes_set 1 sc.nd (pee_lst pea_nil)) (pess_cons (pes_for pa (pei_rng1 T.n_range (pea_cons (pee_cb cm_len T.n_len (pea_cons (pee_name 0) pea_nil)) pea_nil)) (peg_name 2 sc.nd) (pess_one (pes_for pa (pei_rng1 T.n_range (pea_cons (pee_cb cm_len T.n_len (pea_cons (pee_name 0) pea_nil)) pea_nil)) (peg_name 3 sc.nd) (pess_one (pes_if ((pew_and (pet_cmp (om_neD (hu64 hu)) (pee_name 2) (pee_name 3)) (pew_and1 (pet_cmp (om_neD (hu64 hu)) (pee_lc sc.nd (own := [("_law_key", 4)]) (l := [4]) (pei_seq (pee_ix (xm_ix (hu1 hu)) (pee_name 0) (pee_name 2))) ⟨⟨rfl, by first | decide +kernel | (dsimp only [cxOf, envOfC, compEnvC, relabel]; decide +kernel) | exact of_decide_eq_true (by kernel_rfl), by first | decide +kernel | (dsimp only [cxOf, envOfC, compEnvC, relabel]; decide +kernel) | exact of_decide_eq_true (by kernel_rfl), by first | decide +kernel | (dsimp only [cxOf, envOfC, compEnvC, relabel]; decide +kernel) | exact of_decide_eq_true (by kernel_rfl), by first | decide +kernel | (dsimp only [cxOf, envOfC, compEnvC, relabel]; decide +kernel) | exact of_decide_eq_true (by kernel_rfl)⟩, (tgN_ne _), by decide, fun _ _ _ _ _ => by exact peg_name 4 sc.nd, fun _ _ _ _ _ => by exact pets_one (pet_cmp (om_in (hu65 hu)) (pee_name 4) (pee_ix (xm_ix (hu1 hu)) (pee_name 0) (pee_name 3))), fun _ _ _ _ _ => by exact pee_name 4⟩) (pee_lst pea_nil)))).pt) (pess_one (pes_expr (pee_mut (k := .lst) PySem.F.plainAttrs_list PySem.F.slot_list_append PySem.F.type_list_append mt_append mu_append (pee_name 1) (pea_cons (pee_tup (pea_cons (pee_name 2) (pea_cons (pee_name 3) pea_nil))) pea_nil)))) pess_nil))))) (pess_one (pes_ret (pee_name 1))))
theorem sc__law_longer : FnScope ["_law_paths", "_law_many", "_law_taker", "_law_found", "_law_path", "_law_copy"] ["_law_paths", "_law_many", "_law_taker"] (defScope s__law_longer) := ⟨rfl, rfl, rfl, by decide +kernel, rfl, by decide +kernel, by decide +kernel⟩
noncomputable def b__law_longer : Mo Fl := mSeq (mAsg 3 (mLst mNil)) (mSeq (mFor (mIter (mName 0)) (tgN 4) (mAsg 3 (mBin fAdd (mName 3) (mLc [5] (mRng1 (mCons (mName 1) mNil)) (tgN 5) (mAnd (mB (mBin fNeD (mName 5) (mName 2))) (mB (mBin (fIn true) (mName 5) (mName 4)))) (mBin fAdd (mName 4) (mTup (mCons (mName 5) mNil))))))) (mRet (mName 3)))
noncomputable def m__law_longer : Fn := fnM 6 b__law_longer
theorem ok__law_longer (T : Tx P K mg) : FnM P w K mg base 1 T.f__law_longer T.fd__law_longer ["_law_paths", "_law_many", "_law_taker"] m__law_longer := have sc := sc__law_longer; defM2 T.F__law_longer sc rfl fun cdv A outer s H E hr hu tk pa => pess_cons (pes_set 3 sc.nd (pee_lst pea_nil)) (pess_cons (pes_for pa (pei_seq (pee_name 0)) (peg_name 4 sc.nd) (pess_one (pes_set 3 sc.nd (pee_op om_add (pee_name 3) (pee_lc sc.nd (own := [("_law_copy", 5)]) (l := [5]) (pei_rng1 T.n_range (pea_cons (pee_name 1) pea_nil)) ⟨⟨rfl, by first | decide +kernel | (dsimp only [cxOf, envOfC, compEnvC, relabel]; decide +kernel) | exact of_decide_eq_true (by kernel_rfl), by first | decide +kernel | (dsimp only [cxOf, envOfC, compEnvC, relabel]; decide +kernel) | exact of_decide_eq_true (by kernel_rfl), by first | decide +kernel | (dsimp only [cxOf, envOfC, compEnvC, relabel]; decide +kernel) | exact of_decide_eq_true (by kernel_rfl), by first | decide +kernel | (dsimp only [cxOf, envOfC, compEnvC, relabel]; decide +kernel) | exact of_decide_eq_true (by kernel_rfl)⟩, (tgN_ne _), by decide, fun _ _ _ _ _ => by exact peg_name 5 sc.nd, fun _ _ _ _ _ => by exact pets_one ((pew_and (pet_cmp (om_neD (hu64 hu)) (pee_name 5) (pee_name 2)) (pew_and1 (pet_cmp (om_notIn (hu65 hu)) (pee_name 5) (pee_name 4)))).pt), fun _ _ _ _ _ => by exact pee_op om_add (pee_name 4) (pee_tup (pea_cons (pee_name 5) pea_nil))⟩))))) (pess_one (pes_ret (pee_name 3))))
theorem sc__law_keys_of : FnScope ["_law_rows_here", "_law_one", "_law_two", "_law_away", "_law_key", "_law_copy"] ["_law_rows_here", "_law_one", "_law_two", "_law_away"] (defScope s__law_keys_of) := ⟨rfl, rfl, rfl, by decide +kernel, rfl, by decide +kernel, by decide +kernel⟩
noncomputable def b__law_keys_of : Mo Fl := mRet (mLc [4] (mIter (mBin fIx (mName 0) (mName 1))) (tgN 4) (mAnd (mB (mBin (fIn false) (mName 4) (mBin fIx (mName 0) (mName 2)))) (mNot (mB (mCB fAny (mCons (mLc [5] (mIter (mName 3)) (tgN 5) mYes (mBin (fIn false) (mName 4) (mBin fIx (mName 0) (mName 5)))) mNil))))) (mName 4))
noncomputable def m__law_keys_of : Fn := fnM 6 b__law_keys_of
theorem ok__law_keys_of (T : Tx P K mg) : FnM P w K mg base 1 T.f__law_keys_of T.fd__law_keys_of ["_law_rows_here", "_law_one", "_law_two", "_law_away"] m__law_keys_of := have sc := sc__law_keys_of; defM2 T.F__law_keys_of sc rfl fun cdv A outer s H E hr hu tk pa => pess_one (pes_ret (pee_lc sc.nd (own := [("_law_key", 4)]) (l := [4]) (pei_seq (pee_ix (xm_ix (hu1 hu)) (pee_name 0) (pee_name 1))) ⟨⟨rfl, by first | decide +kernel | (dsimp only [cxOf, envOfC, compEnvC, relabel]; decide +kernel) | exact of_decide_eq_true (by kernel_rfl), by first | decide +kernel | (dsimp only [cxOf, envOfC, compEnvC, relabel]; decide +kernel) | exact of_decide_eq_true (by kernel_rfl), by first | decide +kernel | (dsimp only [cxOf, envOfC, compEnvC, relabel]; decide +kernel) | exact of_decide_eq_true (by kernel_rfl), by first | decide +kernel | (dsimp only [cxOf, envOfC, compEnvC, relabel]; decide +kernel) | exact of_decide_eq_true (by kernel_rfl)⟩, (tgN_ne _), by decide, fun _ _ _ _ _ => by exact peg_name 4 sc.nd, fun _ _ _ _ _ => by exact pets_one ((pew_and (pet_cmp (om_in (hu65 hu)) (pee_name 4) (pee_ix (xm_ix (hu1 hu)) (pee_name 0) (pee_name 2))) (pew_and1 (pet_not (pet_val (pee_cb cm_any T.n_any (pea_cons (pee_lc sc.nd (own := [("_law_copy", 5)]) (l := [5]) (pei_seq (pee_name 3)) ⟨⟨rfl, by first | decide +kernel | (dsimp only [cxOf, envOfC, compEnvC, relabel]; decide +kernel) | exact of_decide_eq_true (by kernel_rfl), by first | decide +kernel | (dsimp only [cxOf, envOfC, compEnvC, relabel]; decide +kernel) | exact of_decide_eq_true (by kernel_rfl), by first | decide +kernel | (dsimp only [cxOf, envOfC, compEnvC, relabel]; decide +kernel) | exact of_decide_eq_true (by kernel_rfl), by first | decide +kernel | (dsimp only [cxOf, envOfC, compEnvC, relabel]; decide +kernel) | exact of_decide_eq_true (by kernel_rfl)⟩, (tgN_ne _), by decide, fun _ _ _ _ _ => by exact peg_name 5 sc.nd, fun _ _ _ _ _ => by exact pets_nil, fun _ _ _ _ _ => by exact pee_cmp (om_in (hu65 hu)) (pee_name 4) (pee_ix (xm_ix (hu1 hu)) (pee_name 0) (pee_name 5))⟩) pea_nil)))))).pt), fun _ _ _ _ _ => by exact pee_name 4⟩))
theorem sc__law_is_chain : FnScope ["_law_rows_here", "_law_chain", "_law_path", "_law_taker", "_law_at"] ["_law_rows_here", "_law_chain"] (defScope s__law_is_chain) := ⟨rfl, rfl, rfl, by decide +kernel, rfl, by decide +kernel, by decide +kernel⟩
noncomputable def b__law_is_chain : Mo Fl := mSeq (mAsg 2 (mSl (mName 1) mNoPart (mPart (mUn fNeg (mC (.int 1)))))) (mSeq (mAsg 3 (mBin fIx (mName 1) (mUn fNeg (mC (.int 1))))) (mSeq (mIf (mOr (mB (mBin fEqD (mCall 4 m__law_keys_of (mCons (mName 0) (mCons (mBin fIx (mName 2) (mC (.int 0))) (mCons (mName 3) (mCons (mSl (mName 2) (mPart (mC (.int 2))) mNoPart) mNil))))) (mLst mNil))) (mB (mBin fEqD (mCall 4 m__law_keys_of (mCons (mName 0) (mCons (mBin fIx (mName 2) (mC (.int 0))) (mCons (mBin fIx (mName 2) (mC (.int 1))) (mCons (mSl (mName 2) (mPart (mC (.int 2))) mNoPart) mNil))))) (mLst mNil)))) (mRet (mC (.bl false))) mNext) (mSeq (mFor (mRng2 (mCons (mC (.int 1)) (mCons (mBin fSub (mCB fLen (mCons (mName 2) mNil)) (mC (.int 1))) mNil))) (tgN 4) (mIf (mB (mBin fEqD (mCall 4 m__law_keys_of (mCons (mName 0) (mCons (mBin fIx (mName 2) (mName 4)) (mCons (mBin fIx (mName 2) (mBin fAdd (mName 4) (mC (.int 1)))) (mCons (mBin fAdd (mSl (mName 2) (mPart (mBin fAdd (mName 4) (mC (.int 2)))) mNoPart) (mTup (mCons (mName 3) mNil))) mNil))))) (mLst mNil))) (mRet (mC (.bl false))) mNext)) (mRet (mBin fNeD (mCall 4 m__law_keys_of (mCons (mName 0) (mCons (mBin fIx (mName 2) (mUn fNeg (mC (.int 1)))) (mCons (mName 3) (mCons (mTup mNil) mNil))))) (mLst mNil))))))
noncomputable def _law_is_chain_s0 : Mo Fl := (mAsg 2 (mSl (mName 1) mNoPart (mPart (mUn fNeg (mC (.int 1))))))
noncomputable def _law_is_chain_s1 : Mo Fl := (mAsg 3 (mBin fIx (mName 1) (mUn fNeg (mC (.int 1)))))
noncomputable def _law_is_chain_s2 : Mo Fl := (mIf (mOr (mB (mBin fEqD (mCall 4 m__law_keys_of (mCons (mName 0) (mCons (mBin fIx (mName 2) (mC (.int 0))) (mCons (mName 3) (mCons (mSl (mName 2) (mPart (mC (.int 2))) mNoPart) mNil))))) (mLst mNil))) (mB (mBin fEqD (mCall 4 m__law_keys_of (mCons (mName 0) (mCons (mBin fIx (mName 2) (mC (.int 0))) (mCons (mBin fIx (mName 2) (mC (.int 1))) (mCons (mSl (mName 2) (mPart (mC (.int 2))) mNoPart) mNil))))) (mLst mNil)))) (mRet (mC (.bl false))) mNext)
noncomputable def _law_is_chain_s3b_s0 : Mo Fl := (mIf (mB (mBin fEqD (mCall 4 m__law_keys_of (mCons (mName 0) (mCons (mBin fIx (mName 2) (mName 4)) (mCons (mBin fIx (mName 2) (mBin fAdd (mName 4) (mC (.int 1)))) (mCons (mBin fAdd (mSl (mName 2) (mPart (mBin fAdd (mName 4) (mC (.int 2)))) mNoPart) (mTup (mCons (mName 3) mNil))) mNil))))) (mLst mNil))) (mRet (mC (.bl false))) mNext)
noncomputable def _law_is_chain_s3b_t0 : Mo Fl := _law_is_chain_s3b_s0
noncomputable def _law_is_chain_s3 : Mo Fl := mFor (mRng2 (mCons (mC (.int 1)) (mCons (mBin fSub (mCB fLen (mCons (mName 2) mNil)) (mC (.int 1))) mNil))) (tgN 4) _law_is_chain_s3b_t0
noncomputable def _law_is_chain_s4 : Mo Fl := (mRet (mBin fNeD (mCall 4 m__law_keys_of (mCons (mName 0) (mCons (mBin fIx (mName 2) (mUn fNeg (mC (.int 1)))) (mCons (mName 3) (mCons (mTup mNil) mNil))))) (mLst mNil)))
noncomputable def _law_is_chain_t4 : Mo Fl := _law_is_chain_s4
noncomputable def _law_is_chain_t3 : Mo Fl := mSeq _law_is_chain_s3 _law_is_chain_t4
noncomputable def _law_is_chain_t2 : Mo Fl := mSeq _law_is_chain_s2 _law_is_chain_t3
noncomputable def _law_is_chain_t1 : Mo Fl := mSeq _law_is_chain_s1 _law_is_chain_t2
noncomputable def _law_is_chain_t0 : Mo Fl := mSeq _law_is_chain_s0 _law_is_chain_t1
theorem _law_is_chain_cut : b__law_is_chain = _law_is_chain_t0 := rfl
noncomputable def m__law_is_chain : Fn := fnM 5 b__law_is_chain
theorem ok__law_is_chain (T : Tx P K mg) : FnM P w K mg base 2 T.f__law_is_chain T.fd__law_is_chain ["_law_rows_here", "_law_chain"] m__law_is_chain := have sc := sc__law_is_chain; defM2 T.F__law_is_chain sc rfl fun cdv A outer s H E hr hu tk pa => pess_cons (pes_set 2 sc.nd (pee_sl (pee_name 1) peo_none (peo_some (pee_un um_neg pee_int)))) (pess_cons (pes_set 3 sc.nd (pee_ix (xm_ix (hu1 hu)) (pee_name 1) (pee_un um_neg pee_int))) (pess_cons (pes_if ((pew_or (pet_cmp (om_eqD (hu64 hu)) (pee_callN rfl (ok__law_keys_of T) (hr.mono (by decide)) T.g__law_keys_of T.F__law_keys_of.kp T.b__law_keys_of tk (pea_cons (pee_name 0) (pea_cons (pee_ix (xm_ix (hu1 hu)) (pee_name 2) pee_int) (pea_cons (pee_name 3) (pea_cons (pee_sl (pee_name 2) (peo_some pee_int) peo_none) pea_nil))))) (pee_lst pea_nil)) (pew_or1 (pet_cmp (om_eqD (hu64 hu)) (pee_callN rfl (ok__law_keys_of T) (hr.mono (by decide)) T.g__law_keys_of T.F__law_keys_of.kp T.b__law_keys_of tk (pea_cons (pee_name 0) (pea_cons (pee_ix (xm_ix (hu1 hu)) (pee_name 2) pee_int) (pea_cons (pee_ix (xm_ix (hu1 hu)) (pee_name 2) pee_int) (pea_cons (pee_sl (pee_name 2) (peo_some pee_int) peo_none) pea_nil))))) (pee_lst pea_nil)))).pt) (pess_one (pes_ret pee_bl)) pess_nil) (pess_cons (pes_for pa (pei_rng2 T.n_range (pea_cons pee_int (pea_cons (pee_op om_sub (pee_cb cm_len T.n_len (pea_cons (pee_name 2) pea_nil)) pee_int) pea_nil))) (peg_name 4 sc.nd) (pess_one (pes_if (pet_cmp (om_eqD (hu64 hu)) (pee_callN rfl (ok__law_keys_of T) (hr.mono (by decide)) T.g__law_keys_of T.F__law_keys_of.kp T.b__law_keys_of tk (pea_cons (pee_name 0) (pea_cons (pee_ix (xm_ix (hu1 hu)) (pee_name 2) (pee_name 4)) (pea_cons (pee_ix (xm_ix (hu1 hu)) (pee_name 2) (pee_op om_add (pee_name 4) pee_int)) (pea_cons (pee_op om_add (pee_sl (pee_name 2) (peo_some (pee_op om_add (pee_name 4) pee_int)) peo_none) (pee_tup (pea_cons (pee_name 3) pea_nil))) pea_nil))))) (pee_lst pea_nil)) (pess_one (pes_ret pee_bl)) pess_nil))) (pess_one (pes_ret (pee_cmp (om_neD (hu64 hu)) (pee_callN rfl (ok__law_keys_of T) (hr.mono (by decide)) T.g__law_keys_of T.F__law_keys_of.kp T.b__law_keys_of tk (pea_cons (pee_name 0) (pea_cons (pee_ix (xm_ix (hu1 hu)) (pee_name 2) (pee_un um_neg pee_int)) (pea_cons (pee_name 3) (pea_cons (pee_tup pea_nil) pea_nil))))) (pee_lst pea_nil)))))))
theorem sc__law_chains : FnScope ["_law_rows_here", "_law_sender", "_law_taker", "_law_found", "_law_paths", "_law_size", "_law_path"] ["_law_rows_here", "_law_sender", "_law_taker"] (defScope s__law_chains) := ⟨rfl, rfl, rfl, by decide +kernel, rfl, by decide +kernel, by decide +kernel⟩
noncomputable def b__law_chains : Mo Fl := mSeq (mAsg 3 (mLst mNil)) (mSeq (mAsg 4 (mLst (mCons (mTup (mCons (mName 1) mNil)) mNil))) (mSeq (mFor (mRng1 (mCons (mBin fSub (mCB fLen (mCons (mName 0) mNil)) (mC (.int 2))) mNil)) (tgN 5) (mSeq (mAsg 4 (mCall 3 m__law_longer (mCons (mName 4) (mCons (mCB fLen (mCons (mName 0) mNil)) (mCons (mName 2) mNil))))) (mAsg 3 (mBin fAdd (mName 3) (mLc [6] (mIter (mName 4)) (tgN 6) (mB (mCall 2 m__law_is_chain (mCons (mName 0) (mCons (mBin fAdd (mName 6) (mTup (mCons (mName 2) mNil))) mNil)))) (mBin fAdd (mName 6) (mTup (mCons (mName 2) mNil)))))))) (mRet (mName 3))))
noncomputable def _law_chains_s0 : Mo Fl := (mAsg 3 (mLst mNil))
noncomputable def _law_chains_s1 : Mo Fl := (mAsg 4 (mLst (mCons (mTup (mCons (mName 1) mNil)) mNil)))
noncomputable def _law_chains_s2b_s0 : Mo Fl := (mAsg 4 (mCall 3 m__law_longer (mCons (mName 4) (mCons (mCB fLen (mCons (mName 0) mNil)) (mCons (mName 2) mNil)))))
noncomputable def _law_chains_s2b_s1 : Mo Fl := (mAsg 3 (mBin fAdd (mName 3) (mLc [6] (mIter (mName 4)) (tgN 6) (mB (mCall 2 m__law_is_chain (mCons (mName 0) (mCons (mBin fAdd (mName 6) (mTup (mCons (mName 2) mNil))) mNil)))) (mBin fAdd (mName 6) (mTup (mCons (mName 2) mNil))))))
noncomputable def _law_chains_s2b_t1 : Mo Fl := _law_chains_s2b_s1
noncomputable def _law_chains_s2b_t0 : Mo Fl := mSeq _law_chains_s2b_s0 _law_chains_s2b_t1
noncomputable def _law_chains_s2 : Mo Fl := mFor (mRng1 (mCons (mBin fSub (mCB fLen (mCons (mName 0) mNil)) (mC (.int 2))) mNil)) (tgN 5) _law_chains_s2b_t0
noncomputable def _law_chains_s3 : Mo Fl := (mRet (mName 3))
noncomputable def _law_chains_t3 : Mo Fl := _law_chains_s3
noncomputable def _law_chains_t2 : Mo Fl := mSeq _law_chains_s2 _law_chains_t3
noncomputable def _law_chains_t1 : Mo Fl := mSeq _law_chains_s1 _law_chains_t2
noncomputable def _law_chains_t0 : Mo Fl := mSeq _law_chains_s0 _law_chains_t1
theorem _law_chains_cut : b__law_chains = _law_chains_t0 := rfl
noncomputable def m__law_chains : Fn := fnM 7 b__law_chains
theorem ok__law_chains (T : Tx P K mg) : FnM P w K mg base 3 T.f__law_chains T.fd__law_chains ["_law_rows_here", "_law_sender", "_law_taker"] m__law_chains := have sc := sc__law_chains; defM2 T.F__law_chains sc rfl fun cdv A outer s H E hr hu tk pa => pess_cons (pes_set 3 sc.nd (pee_lst pea_nil)) (pess_cons (pes_set 4 sc.nd (pee_lst (pea_cons (pee_tup (pea_cons (pee_name 1) pea_nil)) pea_nil))) (pess_cons (pes_for pa (pei_rng1 T.n_range (pea_cons (pee_op om_sub (pee_cb cm_len T.n_len (pea_cons (pee_name 0) pea_nil)) pee_int) pea_nil)) (peg_name 5 sc.nd) (pess_cons (pes_set 4 sc.nd (pee_callN rfl (ok__law_longer T) (hr.mono (by decide)) T.g__law_longer T.F__law_longer.kp T.b__law_longer tk (pea_cons (pee_name 4) (pea_cons (pee_cb cm_len T.n_len (pea_cons (pee_name 0) pea_nil)) (pea_cons (pee_name 2) pea_nil))))) (pess_one (pes_set 3 sc.nd (pee_op om_add (pee_name 3) (pee_lc sc.nd (own := [("_law_path", 6)]) (l := [6]) (pei_seq (pee_name 4)) ⟨⟨rfl, by first | decide +kernel | (dsimp only [cxOf, envOfC, compEnvC, relabel]; decide +kernel) | exact of_decide_eq_true (by kernel_rfl), by first | decide +kernel | (dsimp only [cxOf, envOfC, compEnvC, relabel]; decide +kernel) | exact of_decide_eq_true (by kernel_rfl), by first | decide +kernel | (dsimp only [cxOf, envOfC, compEnvC, relabel]; decide +kernel) | exact of_decide_eq_true (by kernel_rfl), by first | decide +kernel | (dsimp only [cxOf, envOfC, compEnvC, relabel]; decide +kernel) | exact of_decide_eq_true (by kernel_rfl)⟩, (tgN_ne _), by decide, fun _ _ _ _ _ => by exact peg_name 6 sc.nd, fun _ _ _ _ _ => by exact pets_one (pet_val (pee_callN rfl (ok__law_is_chain T) (hr.mono (by decide)) T.g__law_is_chain T.F__law_is_chain.kp T.b__law_is_chain tk0 (pea_cons (pee_name 0) (pea_cons (pee_op om_add (pee_name 6) (pee_tup (pea_cons (pee_name 2) pea_nil))) pea_nil)))), fun _ _ _ _ _ => by exact pee_op om_add (pee_name 6) (pee_tup (pea_cons (pee_name 2) pea_nil))⟩)))))) (pess_one (pes_ret (pee_name 3)))))
theorem sc__law_drawn : FnScope ["_law_rows_here", "_law_numbers_here", "_law_lines_here", "_law_found", "_law_sender", "_law_taker", "_law_number"] ["_law_rows_here", "_law_numbers_here"] (defScope s__law_drawn) := ⟨rfl, rfl, rfl, by decide +kernel, rfl, by decide +kernel, by decide +kernel⟩
noncomputable def b__law_drawn : Mo Fl := mSeq (mAsg 2 (mCall 1 m__law_lines (mCons (mName 0) mNil))) (mSeq (mIf (mAnd (mB (mBin fLt (mBin fIx (mName 1) (mC (.int 0))) (mC (.int 3)))) (mB (mBin fNeD (mName 2) (mLst mNil)))) (mSeq (mAsgT (tgT 2 (tgsCons (tgN 4) (tgsCons (tgN 5) tgsNil))) (mBin fIx (mName 2) (mBin fMod (mCB fInt1 (mCons (mBin fIx (mName 1) (mC (.int 1))) mNil)) (mCB fLen (mCons (mName 2) mNil))))) (mSeq (mAsg 3 (mCall 3 m__law_chains (mCons (mName 0) (mCons (mName 4) (mCons (mName 5) mNil))))) (mIf (mB (mBin fNeD (mName 3) (mLst mNil))) (mRet (mBin fIx (mName 3) (mBin fMod (mCB fInt1 (mCons (mBin fIx (mName 1) (mC (.int 2))) mNil)) (mCB fLen (mCons (mName 3) mNil))))) mNext))) mNext) (mRet (mCB fTuple (mCons (mLc [6] (mIter (mSl (mName 1) (mPart (mC (.int 4))) (mPart (mBin fAdd (mC (.int 4)) (mBin fMod (mCB fInt1 (mCons (mBin fIx (mName 1) (mC (.int 3))) mNil)) (mC (.int 8))))))) (tgN 6) mYes (mBin fSub (mBin fMod (mCB fInt1 (mCons (mName 6) mNil)) (mBin fAdd (mCB fLen (mCons (mName 0) mNil)) (mC (.int 2)))) (mC (.int 1)))) mNil))))
noncomputable def _law_drawn_s0 : Mo Fl := (mAsg 2 (mCall 1 m__law_lines (mCons (mName 0) mNil)))
noncomputable def _law_drawn_s1a_s0 : Mo Fl := (mAsgT (tgT 2 (tgsCons (tgN 4) (tgsCons (tgN 5) tgsNil))) (mBin fIx (mName 2) (mBin fMod (mCB fInt1 (mCons (mBin fIx (mName 1) (mC (.int 1))) mNil)) (mCB fLen (mCons (mName 2) mNil)))))
noncomputable def _law_drawn_s1a_s1 : Mo Fl := (mAsg 3 (mCall 3 m__law_chains (mCons (mName 0) (mCons (mName 4) (mCons (mName 5) mNil)))))
noncomputable def _law_drawn_s1a_s2 : Mo Fl := (mIf (mB (mBin fNeD (mName 3) (mLst mNil))) (mRet (mBin fIx (mName 3) (mBin fMod (mCB fInt1 (mCons (mBin fIx (mName 1) (mC (.int 2))) mNil)) (mCB fLen (mCons (mName 3) mNil))))) mNext)
noncomputable def _law_drawn_s1a_t2 : Mo Fl := _law_drawn_s1a_s2
noncomputable def _law_drawn_s1a_t1 : Mo Fl := mSeq _law_drawn_s1a_s1 _law_drawn_s1a_t2
noncomputable def _law_drawn_s1a_t0 : Mo Fl := mSeq _law_drawn_s1a_s0 _law_drawn_s1a_t1
noncomputable def _law_drawn_s1 : Mo Fl := mIf (mAnd (mB (mBin fLt (mBin fIx (mName 1) (mC (.int 0))) (mC (.int 3)))) (mB (mBin fNeD (mName 2) (mLst mNil)))) _law_drawn_s1a_t0 mNext
noncomputable def _law_drawn_s2 : Mo Fl := (mRet (mCB fTuple (mCons (mLc [6] (mIter (mSl (mName 1) (mPart (mC (.int 4))) (mPart (mBin fAdd (mC (.int 4)) (mBin fMod (mCB fInt1 (mCons (mBin fIx (mName 1) (mC (.int 3))) mNil)) (mC (.int 8))))))) (tgN 6) mYes (mBin fSub (mBin fMod (mCB fInt1 (mCons (mName 6) mNil)) (mBin fAdd (mCB fLen (mCons (mName 0) mNil)) (mC (.int 2)))) (mC (.int 1)))) mNil)))
noncomputable def _law_drawn_t2 : Mo Fl := _law_drawn_s2
noncomputable def _law_drawn_t1 : Mo Fl := mSeq _law_drawn_s1 _law_drawn_t2
noncomputable def _law_drawn_t0 : Mo Fl := mSeq _law_drawn_s0 _law_drawn_t1
theorem _law_drawn_cut : b__law_drawn = _law_drawn_t0 := rfl
noncomputable def m__law_drawn : Fn := fnM 7 b__law_drawn
theorem ok__law_drawn (T : Tx P K mg) : FnM P w K mg base 4 T.f__law_drawn T.fd__law_drawn ["_law_rows_here", "_law_numbers_here"] m__law_drawn := have sc := sc__law_drawn; defM2 T.F__law_drawn sc rfl fun cdv A outer s H E hr hu tk pa => pess_cons (pes_set 2 sc.nd (pee_callN rfl (ok__law_lines T) (hr.mono (by decide)) T.g__law_lines T.F__law_lines.kp T.b__law_lines tk (pea_cons (pee_name 0) pea_nil))) (pess_cons (pes_if ((pew_and (pet_cmp om_lt (pee_ix (xm_ix (hu1 hu)) (pee_name 1) pee_int) pee_int) (pew_and1 (pet_cmp (om_neD (hu64 hu)) (pee_name 2) (pee_lst pea_nil)))).pt) (pess_cons (pes_asg (pee_ix (xm_ix (hu1 hu)) (pee_name 2) (pee_op om_mod (pee_ct cm_int T.n_int (pea_cons (pee_ix (xm_ix (hu1 hu)) (pee_name 1) pee_int) pea_nil)) (pee_cb cm_len T.n_len (pea_cons (pee_name 2) pea_nil)))) (peg_tup (pegs_cons (peg_name 4 sc.nd) (pegs_cons (peg_name 5 sc.nd) pegs_nil)))) (pess_cons (pes_set 3 sc.nd (pee_callN rfl (ok__law_chains T) (hr.mono (by decide)) T.g__law_chains T.F__law_chains.kp T.b__law_chains tk (pea_cons (pee_name 0) (pea_cons (pee_name 4) (pea_cons (pee_name 5) pea_nil))))) (pess_one (pes_if (pet_cmp (om_neD (hu64 hu)) (pee_name 3) (pee_lst pea_nil)) (pess_one (pes_ret (pee_ix (xm_ix (hu1 hu)) (pee_name 3) (pee_op om_mod (pee_ct cm_int T.n_int (pea_cons (pee_ix (xm_ix (hu1 hu)) (pee_name 1) pee_int) pea_nil)) (pee_cb cm_len T.n_len (pea_cons (pee_name 3) pea_nil)))))) pess_nil)))) pess_nil) (pess_one (pes_ret (pee_ct cm_tuple T.n_tuple (pea_cons (pee_lc sc.nd (own := [("_law_number", 6)]) (l := [6]) (pei_seq (pee_sl (pee_name 1) (peo_some pee_int) (peo_some (pee_op om_add pee_int (pee_op om_mod (pee_ct cm_int T.n_int (pea_cons (pee_ix (xm_ix (hu1 hu)) (pee_name 1) pee_int) pea_nil)) pee_int))))) ⟨⟨rfl, by first | decide +kernel | (dsimp only [cxOf, envOfC, compEnvC, relabel]; decide +kernel) | exact of_decide_eq_true (by kernel_rfl), by first | decide +kernel | (dsimp only [cxOf, envOfC, compEnvC, relabel]; decide +kernel) | exact of_decide_eq_true (by kernel_rfl), by first | decide +kernel | (dsimp only [cxOf, envOfC, compEnvC, relabel]; decide +kernel) | exact of_decide_eq_true (by kernel_rfl), by first | decide +kernel | (dsimp only [cxOf, envOfC, compEnvC, relabel]; decide +kernel) | exact of_decide_eq_true (by kernel_rfl)⟩, (tgN_ne _), by decide, fun _ _ _ _ _ => by exact peg_name 6 sc.nd, fun _ _ _ _ _ => by exact pets_nil, fun _ _ _ _ _ => by exact pee_op om_sub (pee_op om_mod (pee_ct cm_int T.n_int (pea_cons (pee_name 6) pea_nil)) (pee_op om_add (pee_cb cm_len T.n_len (pea_cons (pee_name 0) pea_nil)) pee_int)) pee_int⟩) pea_nil)))))
theorem sc__law_valid : FnScope ["_law_rows_here", "_law_chain", "_law_copy"] ["_law_rows_here", "_law_chain"] (defScope s__law_valid) := ⟨rfl, rfl, rfl, by decide +kernel, rfl, by decide +kernel, by decide +kernel⟩
noncomputable def b__law_valid : Mo Fl := mSeq (mIf (mOr (mB (mBin fLt (mCB fLen (mCons (mName 1) mNil)) (mC (.int 3)))) (mB (mBin fNeD (mCB fLen (mCons (mLc [2] (mRng1 (mCons (mCB fLen (mCons (mName 0) mNil)) mNil)) (tgN 2) (mB (mBin (fIn false) (mName 2) (mName 1))) (mName 2)) mNil)) (mCB fLen (mCons (mName 1) mNil))))) (mRet (mC (.bl false))) mNext) (mRet (mCall 2 m__law_is_chain (mCons (mName 0) (mCons (mName 1) mNil))))
noncomputable def m__law_valid : Fn := fnM 3 b__law_valid
theorem ok__law_valid (T : Tx P K mg) : FnM P w K mg base 3 T.f__law_valid T.fd__law_valid ["_law_rows_here", "_law_chain"] m__law_valid := have sc := sc__law_valid; defM2 T.F__law_valid sc rfl fun cdv A outer s H E hr hu tk pa => pess_cons (pes_if ((pew_or (pet_cmp om_lt (pee_cb cm_len T.n_len (pea_cons (pee_name 1) pea_nil)) pee_int) (pew_or1 (pet_cmp (om_neD (hu64 hu)) (pee_cb cm_len T.n_len (pea_cons (pee_lc sc.nd (own := [("_law_copy", 2)]) (l := [2]) (pei_rng1 T.n_range (pea_cons (pee_cb cm_len T.n_len (pea_cons (pee_name 0) pea_nil)) pea_nil)) ⟨⟨rfl, by first | decide +kernel | (dsimp only [cxOf, envOfC, compEnvC, relabel]; decide +kernel) | exact of_decide_eq_true (by kernel_rfl), by first | decide +kernel | (dsimp only [cxOf, envOfC, compEnvC, relabel]; decide +kernel) | exact of_decide_eq_true (by kernel_rfl), by first | decide +kernel | (dsimp only [cxOf, envOfC, compEnvC, relabel]; decide +kernel) | exact of_decide_eq_true (by kernel_rfl), by first | decide +kernel | (dsimp only [cxOf, envOfC, compEnvC, relabel]; decide +kernel) | exact of_decide_eq_true (by kernel_rfl)⟩, (tgN_ne _), by decide, fun _ _ _ _ _ => by exact peg_name 2 sc.nd, fun _ _ _ _ _ => by exact pets_one (pet_cmp (om_in (hu65 hu)) (pee_name 2) (pee_name 1)), fun _ _ _ _ _ => by exact pee_name 2⟩) pea_nil)) (pee_cb cm_len T.n_len (pea_cons (pee_name 1) pea_nil))))).pt) (pess_one (pes_ret pee_bl)) pess_nil) (pess_one (pes_ret (pee_callN rfl (ok__law_is_chain T) (hr.mono (by decide)) T.g__law_is_chain T.F__law_is_chain.kp T.b__law_is_chain tk (pea_cons (pee_name 0) (pea_cons (pee_name 1) pea_nil)))))
theorem sc_Layout___len__ : FnScope ["self"] ["self"] (defScope s_Layout___len__) := ⟨rfl, rfl, rfl, by decide +kernel, rfl, by decide +kernel, by decide +kernel⟩
noncomputable def b_Layout___len__ : Mo Fl := mRet (mCB fLen (mCons (mUn (fFld fn_rows "rows") (mName 0)) mNil))
noncomputable def m_Layout___len__ : Fn := fnM 1 b_Layout___len__
theorem ok_Layout___len__ (T : Tx P K mg) : FnM P w K mg base 1 T.f_Layout___len__ T.fd_Layout___len__ ["self"] m_Layout___len__ := have sc := sc_Layout___len__; defM2 T.F_Layout___len__ sc rfl fun cdv A outer s H E hr hu tk pa => pess_one (pes_ret (pee_cb cm_len T.n_len (pea_cons (pee_fld T.fd_rows (pee_name 0)) pea_nil)))
theorem sc_is_path : FnScope ["layout", "chain", "copy"] ["layout", "chain"] (defScope s_is_path) := ⟨rfl, rfl, rfl, by decide +kernel, rfl, by decide +kernel, by decide +kernel⟩
noncomputable def b_is_path : Mo Fl := mSeq (mIf (mOr (mB (mBin fLt (mCB fLen (mCons (mName 1) mNil)) (mC (.int 3)))) (mB (mBin fLt (mLenSetT (mName 1)) (mCB fLen (mCons (mName 1) mNil))))) (mRet (mC (.bl false))) mNext) (mRet (mCB fAll (mCons (mLc [2] (mIter (mName 1)) (tgN 2) mYes (mChain fLe fLt (mC (.int 0)) (mName 2) (mLenO "Layout" m_Layout___len__ (mCons (mName 0) mNil)))) mNil)))
noncomputable def m_is_path : Fn := fnM 3 b_is_path
theorem ok_is_path (T : Tx P K mg) : FnM P w K mg base 3 T.f_is_path T.fd_is_path ["layout", "chain"] m_is_path := have sc := sc_is_path; defM2 T.F_is_path sc rfl fun cdv A outer s H E hr hu tk pa => pess_cons (pes_if ((pew_or (pet_cmp om_lt (pee_cb cm_len T.n_len (pea_cons (pee_name 1) pea_nil)) pee_int) (pew_or1 (pet_cmp om_lt (pee_lenSetT rfl T.n_len T.n_set (pee_name 1)) (pee_cb cm_len T.n_len (pea_cons (pee_name 1) pea_nil))))).pt) (pess_one (pes_ret pee_bl)) pess_nil) (pess_one (pes_ret (pee_cb cm_all T.n_all (pea_cons (pee_lc sc.nd (own := [("copy", 2)]) (l := [2]) (pei_seq (pee_name 1)) ⟨⟨rfl, by first | decide +kernel | (dsimp only [cxOf, envOfC, compEnvC, relabel]; decide +kernel) | exact of_decide_eq_true (by kernel_rfl), by first | decide +kernel | (dsimp only [cxOf, envOfC, compEnvC, relabel]; decide +kernel) | exact of_decide_eq_true (by kernel_rfl), by first | decide +kernel | (dsimp only [cxOf, envOfC, compEnvC, relabel]; decide +kernel) | exact of_decide_eq_true (by kernel_rfl), by first | decide +kernel | (dsimp only [cxOf, envOfC, compEnvC, relabel]; decide +kernel) | exact of_decide_eq_true (by kernel_rfl)⟩, (tgN_ne _), by decide, fun _ _ _ _ _ => by exact peg_name 2 sc.nd, fun _ _ _ _ _ => by exact pets_nil, fun _ _ _ _ _ => by exact pee_chain om_le om_lt pee_int (pee_name 2) (pee_lenO T.c_Layout (ok_Layout___len__ T) rfl (hr.mono (by decide)) T.b_Layout___len__ tk0 T.mt_Layout___len__.at_ T.mt_Layout___len__.fn T.n_len (pea_cons (pee_name 0) pea_nil))⟩) pea_nil))))
theorem sc_lowest : FnScope ["mask", "key"] ["mask"] (defScope s_lowest) := ⟨rfl, rfl, rfl, by decide +kernel, rfl, by decide +kernel, by decide +kernel⟩
noncomputable def b_lowest : Mo Fl := mSeq (mAsg 1 (mC (.int 0))) (mSeq (mWhile (mB (mBin fEqD (mBin fBAnd (mBin fShr (mName 0) (mName 1)) (mC (.int 1))) (mC (.int 0)))) (mAug 1 fAddA1 (mC (.int 1)))) (mRet (mName 1)))
noncomputable def m_lowest : Fn := fnM 2 b_lowest
theorem ok_lowest (T : Tx P K mg) : FnM P w K mg base 1 T.f_lowest T.fd_lowest ["mask"] m_lowest := have sc := sc_lowest; defM2 T.F_lowest sc rfl fun cdv A outer s H E hr hu tk pa => pess_cons (pes_set 1 sc.nd pee_int) (pess_cons (pes_while pa (pet_cmp (om_eqD (hu64 hu)) (pee_op om_band (pee_op om_shr (pee_name 0) (pee_name 1)) pee_int) pee_int) (pess_one (pes_aug 1 sc.nd ipm_add pee_int))) (pess_one (pes_ret (pee_name 1))))
theorem sc_chain_keys : FnScope ["layout", "chain", "masks", "ending", "choices", "later", "at", "first", "early", "keys", "taker", "path", "copy", "choice"] ["layout", "chain"] (defScope s_chain_keys) := ⟨rfl, rfl, rfl, by decide +kernel, rfl, by decide +kernel, by decide +kernel⟩
noncomputable def b_chain_keys : Mo Fl := mSeq (mIf (mNot (mB (mCall 2 m_is_path (mCons (mName 0) (mCons (mName 1) mNil))))) (mRet (mC .non)) mNext) (mSeq (mStar 11 10 (mName 1)) (mSeq (mAsg 2 (mLc [12] (mIter (mName 11)) (tgN 12) mYes (mBin fIx (mUn (fFld fn_masks "masks") (mName 0)) (mName 12)))) (mSeq (mAsg 3 (mBin fIx (mUn (fFld fn_masks "masks") (mName 0)) (mName 10))) (mSeq (mAsg 4 (mLst (mCons (mBin fBAnd (mBin fIx (mName 2) (mUn fNeg (mC (.int 1)))) (mName 3)) mNil))) (mSeq (mAsg 5 (mC (.int 0))) (mSeq (mFor (mRng3 (mCons (mBin fSub (mCB fLen (mCons (mName 11) mNil)) (mC (.int 2))) (mCons (mC (.int 0)) (mCons (mUn fNeg (mC (.int 1))) mNil)))) (tgN 6) (mSeq (mDrop (mMut .lst fAppend (mName 4) (mCons (mBin fBAnd (mBin fBAnd (mBin fBAnd (mBin fIx (mName 2) (mName 6)) (mBin fIx (mName 2) (mBin fAdd (mName 6) (mC (.int 1))))) (mUn fInv (mName 5))) (mUn fInv (mName 3))) mNil))) (mAug 5 fOrA1 (mBin fIx (mName 2) (mBin fAdd (mName 6) (mC (.int 1))))))) (mSeq (mAsg 7 (mBin fBAnd (mBin fBAnd (mBin fIx (mName 2) (mC (.int 0))) (mBin fIx (mName 2) (mC (.int 1)))) (mUn fInv (mName 5)))) (mSeq (mAsg 8 (mBin fBAnd (mBin fBAnd (mBin fIx (mName 2) (mC (.int 0))) (mName 3)) (mUn fInv (mName 5)))) (mSeq (mIf (mOr (mB (mBin fEqD (mName 7) (mC (.int 0)))) (mOr (mB (mBin fEqD (mName 8) (mC (.int 0)))) (mB (mBin (fIn false) (mC (.int 0)) (mName 4))))) (mRet (mC .non)) mNext) (mSeq (mAsg 9 (mLst (mCons (mCall 1 m_lowest (mCons (mName 8) mNil)) (mCons (mCall 1 m_lowest (mCons (mName 7) mNil)) mNil)))) (mSeq (mIf (mB (mBin fNeD (mBin fBAnd (mName 7) (mName 8)) (mC (.int 0)))) (mAsg 9 (mLst (mCons (mCall 1 m_lowest (mCons (mBin fBAnd (mName 7) (mName 8)) mNil)) mNil))) mNext) (mRet (mBin fAdd (mName 9) (mLc [13] (mIter (mRevL (mName 4))) (tgN 13) mYes (mCall 1 m_lowest (mCons (mName 13) mNil))))))))))))))))
noncomputable def chain_keys_s0 : Mo Fl := (mIf (mNot (mB (mCall 2 m_is_path (mCons (mName 0) (mCons (mName 1) mNil))))) (mRet (mC .non)) mNext)
noncomputable def chain_keys_s1 : Mo Fl := (mStar 11 10 (mName 1))
noncomputable def chain_keys_s2 : Mo Fl := (mAsg 2 (mLc [12] (mIter (mName 11)) (tgN 12) mYes (mBin fIx (mUn (fFld fn_masks "masks") (mName 0)) (mName 12))))
noncomputable def chain_keys_s3 : Mo Fl := (mAsg 3 (mBin fIx (mUn (fFld fn_masks "masks") (mName 0)) (mName 10)))
noncomputable def chain_keys_s4 : Mo Fl := (mAsg 4 (mLst (mCons (mBin fBAnd (mBin fIx (mName 2) (mUn fNeg (mC (.int 1)))) (mName 3)) mNil)))
noncomputable def chain_keys_s5 : Mo Fl := (mAsg 5 (mC (.int 0)))
noncomputable def chain_keys_s6b_s0 : Mo Fl := (mDrop (mMut .lst fAppend (mName 4) (mCons (mBin fBAnd (mBin fBAnd (mBin fBAnd (mBin fIx (mName 2) (mName 6)) (mBin fIx (mName 2) (mBin fAdd (mName 6) (mC (.int 1))))) (mUn fInv (mName 5))) (mUn fInv (mName 3))) mNil)))
noncomputable def chain_keys_s6b_s1 : Mo Fl := (mAug 5 fOrA1 (mBin fIx (mName 2) (mBin fAdd (mName 6) (mC (.int 1)))))
noncomputable def chain_keys_s6b_t1 : Mo Fl := chain_keys_s6b_s1
noncomputable def chain_keys_s6b_t0 : Mo Fl := mSeq chain_keys_s6b_s0 chain_keys_s6b_t1
noncomputable def chain_keys_s6 : Mo Fl := mFor (mRng3 (mCons (mBin fSub (mCB fLen (mCons (mName 11) mNil)) (mC (.int 2))) (mCons (mC (.int 0)) (mCons (mUn fNeg (mC (.int 1))) mNil)))) (tgN 6) chain_keys_s6b_t0
noncomputable def chain_keys_s7 : Mo Fl := (mAsg 7 (mBin fBAnd (mBin fBAnd (mBin fIx (mName 2) (mC (.int 0))) (mBin fIx (mName 2) (mC (.int 1)))) (mUn fInv (mName 5))))
noncomputable def chain_keys_s8 : Mo Fl := (mAsg 8 (mBin fBAnd (mBin fBAnd (mBin fIx (mName 2) (mC (.int 0))) (mName 3)) (mUn fInv (mName 5))))
noncomputable def chain_keys_s9 : Mo Fl := (mIf (mOr (mB (mBin fEqD (mName 7) (mC (.int 0)))) (mOr (mB (mBin fEqD (mName 8) (mC (.int 0)))) (mB (mBin (fIn false) (mC (.int 0)) (mName 4))))) (mRet (mC .non)) mNext)
noncomputable def chain_keys_s10 : Mo Fl := (mAsg 9 (mLst (mCons (mCall 1 m_lowest (mCons (mName 8) mNil)) (mCons (mCall 1 m_lowest (mCons (mName 7) mNil)) mNil))))
noncomputable def chain_keys_s11 : Mo Fl := (mIf (mB (mBin fNeD (mBin fBAnd (mName 7) (mName 8)) (mC (.int 0)))) (mAsg 9 (mLst (mCons (mCall 1 m_lowest (mCons (mBin fBAnd (mName 7) (mName 8)) mNil)) mNil))) mNext)
noncomputable def chain_keys_s12 : Mo Fl := (mRet (mBin fAdd (mName 9) (mLc [13] (mIter (mRevL (mName 4))) (tgN 13) mYes (mCall 1 m_lowest (mCons (mName 13) mNil)))))
noncomputable def chain_keys_t12 : Mo Fl := chain_keys_s12
noncomputable def chain_keys_t11 : Mo Fl := mSeq chain_keys_s11 chain_keys_t12
noncomputable def chain_keys_t10 : Mo Fl := mSeq chain_keys_s10 chain_keys_t11
noncomputable def chain_keys_t9 : Mo Fl := mSeq chain_keys_s9 chain_keys_t10
noncomputable def chain_keys_t8 : Mo Fl := mSeq chain_keys_s8 chain_keys_t9
noncomputable def chain_keys_t7 : Mo Fl := mSeq chain_keys_s7 chain_keys_t8
noncomputable def chain_keys_t6 : Mo Fl := mSeq chain_keys_s6 chain_keys_t7
noncomputable def chain_keys_t5 : Mo Fl := mSeq chain_keys_s5 chain_keys_t6
noncomputable def chain_keys_t4 : Mo Fl := mSeq chain_keys_s4 chain_keys_t5
noncomputable def chain_keys_t3 : Mo Fl := mSeq chain_keys_s3 chain_keys_t4
noncomputable def chain_keys_t2 : Mo Fl := mSeq chain_keys_s2 chain_keys_t3
noncomputable def chain_keys_t1 : Mo Fl := mSeq chain_keys_s1 chain_keys_t2
noncomputable def chain_keys_t0 : Mo Fl := mSeq chain_keys_s0 chain_keys_t1
theorem chain_keys_cut : b_chain_keys = chain_keys_t0 := rfl
noncomputable def m_chain_keys : Fn := fnM 14 b_chain_keys
theorem ok_chain_keys (T : Tx P K mg) : FnM P w K mg base 4 T.f_chain_keys T.fd_chain_keys ["layout", "chain"] m_chain_keys := have sc := sc_chain_keys; defM2 T.F_chain_keys sc rfl fun cdv A outer s H E hr hu tk pa => pess_cons (pes_if (pet_not (pet_val (pee_callN rfl (ok_is_path T) (hr.mono (by decide)) T.g_is_path T.F_is_path.kp T.b_is_path tk (pea_cons (pee_name 0) (pea_cons (pee_name 1) pea_nil))))) (pess_one (pes_ret pee_non)) pess_nil) (pess_cons (pes_star 11 10 sc.nd (by decide) rfl (pee_name 1)) (pess_cons (pes_setLc 2 sc.nd (own := [("copy", 12)]) (l := [12]) (pei_seq (pee_name 11)) ⟨⟨rfl, by first | decide +kernel | (dsimp only [cxOf, envOfC, compEnvC, relabel]; decide +kernel) | exact of_decide_eq_true (by kernel_rfl), by first | decide +kernel | (dsimp only [cxOf, envOfC, compEnvC, relabel]; decide +kernel) | exact of_decide_eq_true (by kernel_rfl), by first | decide +kernel | (dsimp only [cxOf, envOfC, compEnvC, relabel]; decide +kernel) | exact of_decide_eq_true (by kernel_rfl), by first | decide +kernel | (dsimp only [cxOf, envOfC, compEnvC, relabel]; decide +kernel) | exact of_decide_eq_true (by kernel_rfl)⟩, (tgN_ne _), by decide, fun _ _ _ _ _ => by exact peg_name 12 sc.nd, fun _ _ _ _ _ => by exact pets_nil, fun _ _ _ _ _ => by exact pee_ix (xm_ix (hu1 hu)) (pee_fld T.fd_masks (pee_name 0)) (pee_name 12)⟩) (pess_cons (pes_set 3 sc.nd (pee_ix (xm_ix (hu1 hu)) (pee_fld T.fd_masks (pee_name 0)) (pee_name 10))) (pess_cons (pes_set 4 sc.nd (pee_lst (pea_cons (pee_op om_band (pee_ix (xm_ix (hu1 hu)) (pee_name 2) (pee_un um_neg pee_int)) (pee_name 3)) pea_nil))) (pess_cons (pes_set 5 sc.nd pee_int) (pess_cons (pes_for pa (pei_rng3 T.n_range (pea_cons (pee_op om_sub (pee_cb cm_len T.n_len (pea_cons (pee_name 11) pea_nil)) pee_int) (pea_cons pee_int (pea_cons (pee_un um_neg pee_int) pea_nil)))) (peg_name 6 sc.nd) (pess_cons (pes_expr (pee_mut (k := .lst) PySem.F.plainAttrs_list PySem.F.slot_list_append PySem.F.type_list_append mt_append mu_append (pee_name 4) (pea_cons (pee_op om_band (pee_op om_band (pee_op om_band (pee_ix (xm_ix (hu1 hu)) (pee_name 2) (pee_name 6)) (pee_ix (xm_ix (hu1 hu)) (pee_name 2) (pee_op om_add (pee_name 6) pee_int))) (pee_un um_inv (pee_name 5))) (pee_un um_inv (pee_name 3))) pea_nil))) (pess_one (pes_aug 5 sc.nd ipm_or (pee_ix (xm_ix (hu1 hu)) (pee_name 2) (pee_op om_add (pee_name 6) pee_int)))))) (pess_cons (pes_set 7 sc.nd (pee_op om_band (pee_op om_band (pee_ix (xm_ix (hu1 hu)) (pee_name 2) pee_int) (pee_ix (xm_ix (hu1 hu)) (pee_name 2) pee_int)) (pee_un um_inv (pee_name 5)))) (pess_cons (pes_set 8 sc.nd (pee_op om_band (pee_op om_band (pee_ix (xm_ix (hu1 hu)) (pee_name 2) pee_int) (pee_name 3)) (pee_un um_inv (pee_name 5)))) (pess_cons (pes_if ((pew_or (pet_cmp (om_eqD (hu64 hu)) (pee_name 7) pee_int) (pew_or (pet_cmp (om_eqD (hu64 hu)) (pee_name 8) pee_int) (pew_or1 (pet_cmp (om_in (hu65 hu)) pee_int (pee_name 4))))).pt) (pess_one (pes_ret pee_non)) pess_nil) (pess_cons (pes_set 9 sc.nd (pee_lst (pea_cons (pee_callN rfl (ok_lowest T) (hr.mono (by decide)) T.g_lowest T.F_lowest.kp T.b_lowest tk (pea_cons (pee_name 8) pea_nil)) (pea_cons (pee_callN rfl (ok_lowest T) (hr.mono (by decide)) T.g_lowest T.F_lowest.kp T.b_lowest tk (pea_cons (pee_name 7) pea_nil)) pea_nil)))) (pess_cons (pes_if (pet_cmp (om_neD (hu64 hu)) (pee_op om_band (pee_name 7) (pee_name 8)) pee_int) (pess_one (pes_set 9 sc.nd (pee_lst (pea_cons (pee_callN rfl (ok_lowest T) (hr.mono (by decide)) T.g_lowest T.F_lowest.kp T.b_lowest tk (pea_cons (pee_op om_band (pee_name 7) (pee_name 8)) pea_nil)) pea_nil)))) pess_nil) (pess_one (pes_ret (pee_op om_add (pee_name 9) (pee_lc sc.nd (own := [("choice", 13)]) (l := [13]) (pei_seq (pee_revL (pee_name 4))) ⟨⟨rfl, by first | decide +kernel | (dsimp only [cxOf, envOfC, compEnvC, relabel]; decide +kernel) | exact of_decide_eq_true (by kernel_rfl), by first | decide +kernel | (dsimp only [cxOf, envOfC, compEnvC, relabel]; decide +kernel) | exact of_decide_eq_true (by kernel_rfl), by first | decide +kernel | (dsimp only [cxOf, envOfC, compEnvC, relabel]; decide +kernel) | exact of_decide_eq_true (by kernel_rfl), by first | decide +kernel | (dsimp only [cxOf, envOfC, compEnvC, relabel]; decide +kernel) | exact of_decide_eq_true (by kernel_rfl)⟩, (tgN_ne _), by decide, fun _ _ _ _ _ => by exact peg_name 13 sc.nd, fun _ _ _ _ _ => by exact pets_nil, fun _ _ _ _ _ => by exact pee_callN rfl (ok_lowest T) (hr.mono (by decide)) T.g_lowest T.F_lowest.kp T.b_lowest tk0 (pea_cons (pee_name 13) pea_nil)⟩)))))))))))))))
theorem sc_chain_run : FnScope ["layout", "chain", "keys", "steps", "extra", "at"] ["layout", "chain"] (defScope s_chain_run) := ⟨rfl, rfl, rfl, by decide +kernel, rfl, by decide +kernel, by decide +kernel⟩
noncomputable def b_chain_run : Mo Fl := mSeq (mAsg 2 (mCall 2 m_chain_keys (mCons (mName 0) (mCons (mName 1) mNil)))) (mSeq (mIf (mB (mBin fIsN (mName 2) (mC .non))) (mRaise "NoChain" ["chain"] (mCons (mName 1) mNil)) mNext) (mSeq (mAsg 3 (mLst mNil)) (mSeq (mAsg 4 (mBin fAdd (mBin fSub (mCB fLen (mCons (mName 2) mNil)) (mCB fLen (mCons (mName 1) mNil))) (mC (.int 1)))) (mSeq (mIf (mB (mBin fEqD (mName 4) (mC (.int 1)))) (mDrop (mMut .lst fAppend (mName 3) (mCons (mTup (mCons (mC (.str "write")) (mCons (mBin fIx (mName 1) (mC (.int 0))) (mCons (mBin fIx (mName 2) (mC (.int 0))) (mCons (mC (.int 1)) mNil))))) mNil))) mNext) (mSeq (mFor (mRng1 (mCons (mBin fSub (mCB fLen (mCons (mName 1) mNil)) (mC (.int 1))) mNil)) (tgN 5) (mSeq (mDrop (mMut .lst fAppend (mName 3) (mCons (mTup (mCons (mC (.str "write")) (mCons (mBin fIx (mName 1) (mName 5)) (mCons (mBin fIx (mName 2) (mBin fAdd (mName 5) (mName 4))) (mCons (mBin fAdd (mBin fAdd (mName 5) (mName 4)) (mC (.int 1))) mNil))))) mNil))) (mDrop (mMut .lst fAppend (mName 3) (mCons (mTup (mCons (mC (.str "take")) (mCons (mBin fIx (mName 1) (mName 5)) (mCons (mBin fIx (mName 1) (mBin fAdd (mName 5) (mC (.int 1)))) mNil)))) mNil))))) (mRet (mName 3)))))))
noncomputable def chain_run_s0 : Mo Fl := (mAsg 2 (mCall 2 m_chain_keys (mCons (mName 0) (mCons (mName 1) mNil))))
noncomputable def chain_run_s1 : Mo Fl := (mIf (mB (mBin fIsN (mName 2) (mC .non))) (mRaise "NoChain" ["chain"] (mCons (mName 1) mNil)) mNext)
noncomputable def chain_run_s2 : Mo Fl := (mAsg 3 (mLst mNil))
noncomputable def chain_run_s3 : Mo Fl := (mAsg 4 (mBin fAdd (mBin fSub (mCB fLen (mCons (mName 2) mNil)) (mCB fLen (mCons (mName 1) mNil))) (mC (.int 1))))
noncomputable def chain_run_s4a_s0 : Mo Fl := (mDrop (mMut .lst fAppend (mName 3) (mCons (mTup (mCons (mC (.str "write")) (mCons (mBin fIx (mName 1) (mC (.int 0))) (mCons (mBin fIx (mName 2) (mC (.int 0))) (mCons (mC (.int 1)) mNil))))) mNil)))
noncomputable def chain_run_s4a_t0 : Mo Fl := chain_run_s4a_s0
noncomputable def chain_run_s4 : Mo Fl := mIf (mB (mBin fEqD (mName 4) (mC (.int 1)))) chain_run_s4a_t0 mNext
noncomputable def chain_run_s5b_s0 : Mo Fl := (mDrop (mMut .lst fAppend (mName 3) (mCons (mTup (mCons (mC (.str "write")) (mCons (mBin fIx (mName 1) (mName 5)) (mCons (mBin fIx (mName 2) (mBin fAdd (mName 5) (mName 4))) (mCons (mBin fAdd (mBin fAdd (mName 5) (mName 4)) (mC (.int 1))) mNil))))) mNil)))
noncomputable def chain_run_s5b_s1 : Mo Fl := (mDrop (mMut .lst fAppend (mName 3) (mCons (mTup (mCons (mC (.str "take")) (mCons (mBin fIx (mName 1) (mName 5)) (mCons (mBin fIx (mName 1) (mBin fAdd (mName 5) (mC (.int 1)))) mNil)))) mNil)))
noncomputable def chain_run_s5b_t1 : Mo Fl := chain_run_s5b_s1
noncomputable def chain_run_s5b_t0 : Mo Fl := mSeq chain_run_s5b_s0 chain_run_s5b_t1
noncomputable def chain_run_s5 : Mo Fl := mFor (mRng1 (mCons (mBin fSub (mCB fLen (mCons (mName 1) mNil)) (mC (.int 1))) mNil)) (tgN 5) chain_run_s5b_t0
noncomputable def chain_run_s6 : Mo Fl := (mRet (mName 3))
noncomputable def chain_run_t6 : Mo Fl := chain_run_s6
noncomputable def chain_run_t5 : Mo Fl := mSeq chain_run_s5 chain_run_t6
noncomputable def chain_run_t4 : Mo Fl := mSeq chain_run_s4 chain_run_t5
noncomputable def chain_run_t3 : Mo Fl := mSeq chain_run_s3 chain_run_t4
noncomputable def chain_run_t2 : Mo Fl := mSeq chain_run_s2 chain_run_t3
noncomputable def chain_run_t1 : Mo Fl := mSeq chain_run_s1 chain_run_t2
noncomputable def chain_run_t0 : Mo Fl := mSeq chain_run_s0 chain_run_t1
theorem chain_run_cut : b_chain_run = chain_run_t0 := rfl
noncomputable def m_chain_run : Fn := fnM 6 b_chain_run
theorem ok_chain_run (T : Tx P K mg) : FnM P w K mg base 5 T.f_chain_run T.fd_chain_run ["layout", "chain"] m_chain_run := have sc := sc_chain_run; defM2 T.F_chain_run sc rfl fun cdv A outer s H E hr hu tk pa => pess_cons (pes_set 2 sc.nd (pee_callN rfl (ok_chain_keys T) (hr.mono (by decide)) T.g_chain_keys T.F_chain_keys.kp T.b_chain_keys tk (pea_cons (pee_name 0) (pea_cons (pee_name 1) pea_nil)))) (pess_cons (pes_if (pet_cmp om_isN (pee_name 2) pee_non) (pess_one (pes_raise (fs := ["chain"]) T.c_NoChain T.ox_NoChain T.xn_NoChain (by decide) T.xf1_NoChain T.xf2_NoChain (xok_NoChain T) (hr.mono (by decide)) T.b_NoChain___init__ tk (pea_cons (pee_name 1) pea_nil))) pess_nil) (pess_cons (pes_set 3 sc.nd (pee_lst pea_nil)) (pess_cons (pes_set 4 sc.nd (pee_op om_add (pee_op om_sub (pee_cb cm_len T.n_len (pea_cons (pee_name 2) pea_nil)) (pee_cb cm_len T.n_len (pea_cons (pee_name 1) pea_nil))) pee_int)) (pess_cons (pes_if (pet_cmp (om_eqD (hu64 hu)) (pee_name 4) pee_int) (pess_one (pes_expr (pee_mut (k := .lst) PySem.F.plainAttrs_list PySem.F.slot_list_append PySem.F.type_list_append mt_append mu_append (pee_name 3) (pea_cons (pee_tup (pea_cons pee_str (pea_cons (pee_ix (xm_ix (hu1 hu)) (pee_name 1) pee_int) (pea_cons (pee_ix (xm_ix (hu1 hu)) (pee_name 2) pee_int) (pea_cons pee_int pea_nil))))) pea_nil)))) pess_nil) (pess_cons (pes_for pa (pei_rng1 T.n_range (pea_cons (pee_op om_sub (pee_cb cm_len T.n_len (pea_cons (pee_name 1) pea_nil)) pee_int) pea_nil)) (peg_name 5 sc.nd) (pess_cons (pes_expr (pee_mut (k := .lst) PySem.F.plainAttrs_list PySem.F.slot_list_append PySem.F.type_list_append mt_append mu_append (pee_name 3) (pea_cons (pee_tup (pea_cons pee_str (pea_cons (pee_ix (xm_ix (hu1 hu)) (pee_name 1) (pee_name 5)) (pea_cons (pee_ix (xm_ix (hu1 hu)) (pee_name 2) (pee_op om_add (pee_name 5) (pee_name 4))) (pea_cons (pee_op om_add (pee_op om_add (pee_name 5) (pee_name 4)) pee_int) pea_nil))))) pea_nil))) (pess_one (pes_expr (pee_mut (k := .lst) PySem.F.plainAttrs_list PySem.F.slot_list_append PySem.F.type_list_append mt_append mu_append (pee_name 3) (pea_cons (pee_tup (pea_cons pee_str (pea_cons (pee_ix (xm_ix (hu1 hu)) (pee_name 1) (pee_name 5)) (pea_cons (pee_ix (xm_ix (hu1 hu)) (pee_name 1) (pee_op om_add (pee_name 5) pee_int)) pea_nil)))) pea_nil)))))) (pess_one (pes_ret (pee_name 3))))))))
theorem sc__law_refused : FnScope ["_law_layout", "_law_chain", "e", "_law_told"] ["_law_layout", "_law_chain"] (defScope s__law_refused) := ⟨rfl, rfl, rfl, by decide +kernel, rfl, by decide +kernel, by decide +kernel⟩
noncomputable def b__law_refused : Mo Fl := mSeq (mTry (mAsg 3 (mCall 2 m_chain_run (mCons (mName 0) (mCons (mName 1) mNil)))) [⟨th_NoChain, some 2, mRet (mAndV (mIsX tx_KeeperError 2) (mAndV (mNotV (mIsX tx_LineError 2)) (mBin fEqD (mXf xfn_chain 2 "chain") (mName 1))))⟩]) (mRet (mBin fNeD (mName 3) (mName 3)))
noncomputable def m__law_refused : Fn := fnM 4 b__law_refused
theorem ok__law_refused (T : Tx P K mg) : FnM P w K mg base 6 T.f__law_refused T.fd__law_refused ["_law_layout", "_law_chain"] m__law_refused := have sc := sc__law_refused; defM2 T.F__law_refused sc rfl fun cdv A outer s H E hr hu tk pa => pess_cons (pes_try sc.nd tk (fun _ _ _ tk pa => by exact pess_one (pes_set 3 sc.nd (pee_callN rfl (ok_chain_run T) (hr.mono (by decide)) T.g_chain_run T.F_chain_run.kp T.b_chain_run tk (pea_cons (pee_name 0) (pea_cons (pee_name 1) pea_nil))))) (phds_as 2 ⟨rfl, by decide, .inl T.c_NoChain⟩ T.hd_NoChain (fun _ _ _ _ _ hz hf => by exact pess_one (pes_ret (pee_and (pee_isX 2 hz hf T.isx_KeeperError (ClsV.own _) (fun _ => by exact pe_glob rfl T.c_KeeperError rfl) T.n_isinstance) (pee_and (pee_not (pee_isX 2 hz hf T.isx_LineError (ClsV.own _) (fun _ => by exact pe_glob rfl T.c_LineError rfl) T.n_isinstance)) (pee_one (pee_cmp (om_eqD (hu64 hu)) (pee_xf 2 hz hf T.xf_chain) (pee_name 1))))))) phds_nil)) (pess_one (pes_ret (pee_cmp (om_neD (hu64 hu)) (pee_name 3) (pee_name 3))))
theorem sc__law_run_of : FnScope ["_law_rows_here", "_law_chain", "_law_path", "_law_taker", "_law_early", "_law_first", "_law_both", "_law_keys", "_law_at", "_law_steps", "_law_key"] ["_law_rows_here", "_law_chain"] (defScope s__law_run_of) := ⟨rfl, rfl, rfl, by decide +kernel, rfl, by decide +kernel, by decide +kernel⟩
noncomputable def b__law_run_of : Mo Fl := mSeq (mAsg 2 (mSl (mName 1) mNoPart (mPart (mUn fNeg (mC (.int 1)))))) (mSeq (mAsg 3 (mBin fIx (mName 1) (mUn fNeg (mC (.int 1))))) (mSeq (mAsg 4 (mCall 4 m__law_keys_of (mCons (mName 0) (mCons (mBin fIx (mName 2) (mC (.int 0))) (mCons (mName 3) (mCons (mSl (mName 2) (mPart (mC (.int 2))) mNoPart) mNil)))))) (mSeq (mAsg 5 (mCall 4 m__law_keys_of (mCons (mName 0) (mCons (mBin fIx (mName 2) (mC (.int 0))) (mCons (mBin fIx (mName 2) (mC (.int 1))) (mCons (mSl (mName 2) (mPart (mC (.int 2))) mNoPart) mNil)))))) (mSeq (mAsg 6 (mLc [10] (mIter (mName 4)) (tgN 10) (mB (mBin (fIn false) (mName 10) (mName 5))) (mName 10))) (mSeq (mAsg 7 (mIfE (mB (mBin fNeD (mName 6) (mLst mNil))) (mLst (mCons (mBin fIx (mName 6) (mC (.int 0))) mNil)) (mLst (mCons (mBin fIx (mName 4) (mC (.int 0))) (mCons (mBin fIx (mName 5) (mC (.int 0))) mNil))))) (mSeq (mFor (mRng2 (mCons (mC (.int 1)) (mCons (mBin fSub (mCB fLen (mCons (mName 2) mNil)) (mC (.int 1))) mNil))) (tgN 8) (mDrop (mMut .lst fAppend (mName 7) (mCons (mBin fIx (mCall 4 m__law_keys_of (mCons (mName 0) (mCons (mBin fIx (mName 2) (mName 8)) (mCons (mBin fIx (mName 2) (mBin fAdd (mName 8) (mC (.int 1)))) (mCons (mBin fAdd (mSl (mName 2) (mPart (mBin fAdd (mName 8) (mC (.int 2)))) mNoPart) (mTup (mCons (mName 3) mNil))) mNil))))) (mC (.int 0))) mNil)))) (mSeq (mDrop (mMut .lst fAppend (mName 7) (mCons (mBin fIx (mCall 4 m__law_keys_of (mCons (mName 0) (mCons (mBin fIx (mName 2) (mUn fNeg (mC (.int 1)))) (mCons (mName 3) (mCons (mTup mNil) mNil))))) (mC (.int 0))) mNil))) (mSeq (mAsg 9 (mLst mNil)) (mSeq (mIf (mB (mBin fEqD (mName 6) (mLst mNil))) (mDrop (mMut .lst fAppend (mName 9) (mCons (mTup (mCons (mC (.str "write")) (mCons (mBin fIx (mName 2) (mC (.int 0))) (mCons (mMut .lst fPop (mName 7) (mCons (mC (.int 0)) mNil)) (mCons (mC (.int 1)) mNil))))) mNil))) mNext) (mSeq (mFor (mRng1 (mCons (mCB fLen (mCons (mName 2) mNil)) mNil)) (tgN 8) (mSeq (mDrop (mMut .lst fAppend (mName 9) (mCons (mTup (mCons (mC (.str "write")) (mCons (mBin fIx (mName 2) (mName 8)) (mCons (mBin fIx (mName 7) (mName 8)) (mCons (mBin fAdd (mBin fAdd (mC (.int 1)) (mName 8)) (mCB fInt1 (mCons (mBin fEqD (mName 6) (mLst mNil)) mNil))) mNil))))) mNil))) (mDrop (mMut .lst fAppend (mName 9) (mCons (mTup (mCons (mC (.str "take")) (mCons (mBin fIx (mName 2) (mName 8)) (mCons (mBin fIx (mName 1) (mBin fAdd (mName 8) (mC (.int 1)))) mNil)))) mNil))))) (mRet (mName 9))))))))))))
noncomputable def _law_run_of_s0 : Mo Fl := (mAsg 2 (mSl (mName 1) mNoPart (mPart (mUn fNeg (mC (.int 1))))))
noncomputable def _law_run_of_s1 : Mo Fl := (mAsg 3 (mBin fIx (mName 1) (mUn fNeg (mC (.int 1)))))
noncomputable def _law_run_of_s2 : Mo Fl := (mAsg 4 (mCall 4 m__law_keys_of (mCons (mName 0) (mCons (mBin fIx (mName 2) (mC (.int 0))) (mCons (mName 3) (mCons (mSl (mName 2) (mPart (mC (.int 2))) mNoPart) mNil))))))
noncomputable def _law_run_of_s3 : Mo Fl := (mAsg 5 (mCall 4 m__law_keys_of (mCons (mName 0) (mCons (mBin fIx (mName 2) (mC (.int 0))) (mCons (mBin fIx (mName 2) (mC (.int 1))) (mCons (mSl (mName 2) (mPart (mC (.int 2))) mNoPart) mNil))))))
noncomputable def _law_run_of_s4 : Mo Fl := (mAsg 6 (mLc [10] (mIter (mName 4)) (tgN 10) (mB (mBin (fIn false) (mName 10) (mName 5))) (mName 10)))
noncomputable def _law_run_of_s5 : Mo Fl := (mAsg 7 (mIfE (mB (mBin fNeD (mName 6) (mLst mNil))) (mLst (mCons (mBin fIx (mName 6) (mC (.int 0))) mNil)) (mLst (mCons (mBin fIx (mName 4) (mC (.int 0))) (mCons (mBin fIx (mName 5) (mC (.int 0))) mNil)))))
noncomputable def _law_run_of_s6b_s0 : Mo Fl := (mDrop (mMut .lst fAppend (mName 7) (mCons (mBin fIx (mCall 4 m__law_keys_of (mCons (mName 0) (mCons (mBin fIx (mName 2) (mName 8)) (mCons (mBin fIx (mName 2) (mBin fAdd (mName 8) (mC (.int 1)))) (mCons (mBin fAdd (mSl (mName 2) (mPart (mBin fAdd (mName 8) (mC (.int 2)))) mNoPart) (mTup (mCons (mName 3) mNil))) mNil))))) (mC (.int 0))) mNil)))
noncomputable def _law_run_of_s6b_t0 : Mo Fl := _law_run_of_s6b_s0
noncomputable def _law_run_of_s6 : Mo Fl := mFor (mRng2 (mCons (mC (.int 1)) (mCons (mBin fSub (mCB fLen (mCons (mName 2) mNil)) (mC (.int 1))) mNil))) (tgN 8) _law_run_of_s6b_t0
noncomputable def _law_run_of_s7 : Mo Fl := (mDrop (mMut .lst fAppend (mName 7) (mCons (mBin fIx (mCall 4 m__law_keys_of (mCons (mName 0) (mCons (mBin fIx (mName 2) (mUn fNeg (mC (.int 1)))) (mCons (mName 3) (mCons (mTup mNil) mNil))))) (mC (.int 0))) mNil)))
noncomputable def _law_run_of_s8 : Mo Fl := (mAsg 9 (mLst mNil))
noncomputable def _law_run_of_s9a_s0 : Mo Fl := (mDrop (mMut .lst fAppend (mName 9) (mCons (mTup (mCons (mC (.str "write")) (mCons (mBin fIx (mName 2) (mC (.int 0))) (mCons (mMut .lst fPop (mName 7) (mCons (mC (.int 0)) mNil)) (mCons (mC (.int 1)) mNil))))) mNil)))
noncomputable def _law_run_of_s9a_t0 : Mo Fl := _law_run_of_s9a_s0
noncomputable def _law_run_of_s9 : Mo Fl := mIf (mB (mBin fEqD (mName 6) (mLst mNil))) _law_run_of_s9a_t0 mNext
noncomputable def _law_run_of_s10b_s0 : Mo Fl := (mDrop (mMut .lst fAppend (mName 9) (mCons (mTup (mCons (mC (.str "write")) (mCons (mBin fIx (mName 2) (mName 8)) (mCons (mBin fIx (mName 7) (mName 8)) (mCons (mBin fAdd (mBin fAdd (mC (.int 1)) (mName 8)) (mCB fInt1 (mCons (mBin fEqD (mName 6) (mLst mNil)) mNil))) mNil))))) mNil)))
noncomputable def _law_run_of_s10b_s1 : Mo Fl := (mDrop (mMut .lst fAppend (mName 9) (mCons (mTup (mCons (mC (.str "take")) (mCons (mBin fIx (mName 2) (mName 8)) (mCons (mBin fIx (mName 1) (mBin fAdd (mName 8) (mC (.int 1)))) mNil)))) mNil)))
noncomputable def _law_run_of_s10b_t1 : Mo Fl := _law_run_of_s10b_s1
noncomputable def _law_run_of_s10b_t0 : Mo Fl := mSeq _law_run_of_s10b_s0 _law_run_of_s10b_t1
noncomputable def _law_run_of_s10 : Mo Fl := mFor (mRng1 (mCons (mCB fLen (mCons (mName 2) mNil)) mNil)) (tgN 8) _law_run_of_s10b_t0
noncomputable def _law_run_of_s11 : Mo Fl := (mRet (mName 9))
noncomputable def _law_run_of_t11 : Mo Fl := _law_run_of_s11
noncomputable def _law_run_of_t10 : Mo Fl := mSeq _law_run_of_s10 _law_run_of_t11
noncomputable def _law_run_of_t9 : Mo Fl := mSeq _law_run_of_s9 _law_run_of_t10
noncomputable def _law_run_of_t8 : Mo Fl := mSeq _law_run_of_s8 _law_run_of_t9
noncomputable def _law_run_of_t7 : Mo Fl := mSeq _law_run_of_s7 _law_run_of_t8
noncomputable def _law_run_of_t6 : Mo Fl := mSeq _law_run_of_s6 _law_run_of_t7
noncomputable def _law_run_of_t5 : Mo Fl := mSeq _law_run_of_s5 _law_run_of_t6
noncomputable def _law_run_of_t4 : Mo Fl := mSeq _law_run_of_s4 _law_run_of_t5
noncomputable def _law_run_of_t3 : Mo Fl := mSeq _law_run_of_s3 _law_run_of_t4
noncomputable def _law_run_of_t2 : Mo Fl := mSeq _law_run_of_s2 _law_run_of_t3
noncomputable def _law_run_of_t1 : Mo Fl := mSeq _law_run_of_s1 _law_run_of_t2
noncomputable def _law_run_of_t0 : Mo Fl := mSeq _law_run_of_s0 _law_run_of_t1
theorem _law_run_of_cut : b__law_run_of = _law_run_of_t0 := rfl
noncomputable def m__law_run_of : Fn := fnM 11 b__law_run_of
theorem ok__law_run_of (T : Tx P K mg) : FnM P w K mg base 2 T.f__law_run_of T.fd__law_run_of ["_law_rows_here", "_law_chain"] m__law_run_of := have sc := sc__law_run_of; defM2 T.F__law_run_of sc rfl fun cdv A outer s H E hr hu tk pa => pess_cons (pes_set 2 sc.nd (pee_sl (pee_name 1) peo_none (peo_some (pee_un um_neg pee_int)))) (pess_cons (pes_set 3 sc.nd (pee_ix (xm_ix (hu1 hu)) (pee_name 1) (pee_un um_neg pee_int))) (pess_cons (pes_set 4 sc.nd (pee_callN rfl (ok__law_keys_of T) (hr.mono (by decide)) T.g__law_keys_of T.F__law_keys_of.kp T.b__law_keys_of tk (pea_cons (pee_name 0) (pea_cons (pee_ix (xm_ix (hu1 hu)) (pee_name 2) pee_int) (pea_cons (pee_name 3) (pea_cons (pee_sl (pee_name 2) (peo_some pee_int) peo_none) pea_nil)))))) (pess_cons (pes_set 5 sc.nd (pee_callN rfl (ok__law_keys_of T) (hr.mono (by decide)) T.g__law_keys_of T.F__law_keys_of.kp T.b__law_keys_of tk (pea_cons (pee_name 0) (pea_cons (pee_ix (xm_ix (hu1 hu)) (pee_name 2) pee_int) (pea_cons (pee_ix (xm_ix (hu1 hu)) (pee_name 2) pee_int) (pea_cons (pee_sl (pee_name 2) (peo_some pee_int) peo_none) pea_nil)))))) (pess_cons (pes_setLc 6 sc.nd (own := [("_law_key", 10)]) (l := [10]) (pei_seq (pee_name 4)) ⟨⟨rfl, by first | decide +kernel | (dsimp only [cxOf, envOfC, compEnvC, relabel]; decide +kernel) | exact of_decide_eq_true (by kernel_rfl), by first | decide +kernel | (dsimp only [cxOf, envOfC, compEnvC, relabel]; decide +kernel) | exact of_decide_eq_true (by kernel_rfl), by first | decide +kernel | (dsimp only [cxOf, envOfC, compEnvC, relabel]; decide +kernel) | exact of_decide_eq_true (by kernel_rfl), by first | decide +kernel | (dsimp only [cxOf, envOfC, compEnvC, relabel]; decide +kernel) | exact of_decide_eq_true (by kernel_rfl)⟩, (tgN_ne _), by decide, fun _ _ _ _ _ => by exact peg_name 10 sc.nd, fun _ _ _ _ _ => by exact pets_one (pet_cmp (om_in (hu65 hu)) (pee_name 10) (pee_name 5)), fun _ _ _ _ _ => by exact pee_name 10⟩) (pess_cons (pes_set 7 sc.nd (pee_ife (pet_cmp (om_neD (hu64 hu)) (pee_name 6) (pee_lst pea_nil)) (pee_lst (pea_cons (pee_ix (xm_ix (hu1 hu)) (pee_name 6) pee_int) pea_nil)) (pee_lst (pea_cons (pee_ix (xm_ix (hu1 hu)) (pee_name 4) pee_int) (pea_cons (pee_ix (xm_ix (hu1 hu)) (pee_name 5) pee_int) pea_nil))))) (pess_cons (pes_for pa (pei_rng2 T.n_range (pea_cons pee_int (pea_cons (pee_op om_sub (pee_cb cm_len T.n_len (pea_cons (pee_name 2) pea_nil)) pee_int) pea_nil))) (peg_name 8 sc.nd) (pess_one (pes_expr (pee_mut (k := .lst) PySem.F.plainAttrs_list PySem.F.slot_list_append PySem.F.type_list_append mt_append mu_append (pee_name 7) (pea_cons (pee_ix (xm_ix (hu1 hu)) (pee_callN rfl (ok__law_keys_of T) (hr.mono (by decide)) T.g__law_keys_of T.F__law_keys_of.kp T.b__law_keys_of tk (pea_cons (pee_name 0) (pea_cons (pee_ix (xm_ix (hu1 hu)) (pee_name 2) (pee_name 8)) (pea_cons (pee_ix (xm_ix (hu1 hu)) (pee_name 2) (pee_op om_add (pee_name 8) pee_int)) (pea_cons (pee_op om_add (pee_sl (pee_name 2) (peo_some (pee_op om_add (pee_name 8) pee_int)) peo_none) (pee_tup (pea_cons (pee_name 3) pea_nil))) pea_nil))))) pee_int) pea_nil))))) (pess_cons (pes_expr (pee_mut (k := .lst) PySem.F.plainAttrs_list PySem.F.slot_list_append PySem.F.type_list_append mt_append mu_append (pee_name 7) (pea_cons (pee_ix (xm_ix (hu1 hu)) (pee_callN rfl (ok__law_keys_of T) (hr.mono (by decide)) T.g__law_keys_of T.F__law_keys_of.kp T.b__law_keys_of tk (pea_cons (pee_name 0) (pea_cons (pee_ix (xm_ix (hu1 hu)) (pee_name 2) (pee_un um_neg pee_int)) (pea_cons (pee_name 3) (pea_cons (pee_tup pea_nil) pea_nil))))) pee_int) pea_nil))) (pess_cons (pes_set 9 sc.nd (pee_lst pea_nil)) (pess_cons (pes_if (pet_cmp (om_eqD (hu64 hu)) (pee_name 6) (pee_lst pea_nil)) (pess_one (pes_expr (pee_mut (k := .lst) PySem.F.plainAttrs_list PySem.F.slot_list_append PySem.F.type_list_append mt_append mu_append (pee_name 9) (pea_cons (pee_tup (pea_cons pee_str (pea_cons (pee_ix (xm_ix (hu1 hu)) (pee_name 2) pee_int) (pea_cons (pee_mut (k := .lst) PySem.F.plainAttrs_list PySem.F.slot_list_pop PySem.F.type_list_pop mt_popAt mu_pop (pee_name 7) (pea_cons pee_int pea_nil)) (pea_cons pee_int pea_nil))))) pea_nil)))) pess_nil) (pess_cons (pes_for pa (pei_rng1 T.n_range (pea_cons (pee_cb cm_len T.n_len (pea_cons (pee_name 2) pea_nil)) pea_nil)) (peg_name 8 sc.nd) (pess_cons (pes_expr (pee_mut (k := .lst) PySem.F.plainAttrs_list PySem.F.slot_list_append PySem.F.type_list_append mt_append mu_append (pee_name 9) (pea_cons (pee_tup (pea_cons pee_str (pea_cons (pee_ix (xm_ix (hu1 hu)) (pee_name 2) (pee_name 8)) (pea_cons (pee_ix (xm_ix (hu1 hu)) (pee_name 7) (pee_name 8)) (pea_cons (pee_op om_add (pee_op om_add pee_int (pee_name 8)) (pee_ct cm_int T.n_int (pea_cons (pee_cmp (om_eqD (hu64 hu)) (pee_name 6) (pee_lst pea_nil)) pea_nil))) pea_nil))))) pea_nil))) (pess_one (pes_expr (pee_mut (k := .lst) PySem.F.plainAttrs_list PySem.F.slot_list_append PySem.F.type_list_append mt_append mu_append (pee_name 9) (pea_cons (pee_tup (pea_cons pee_str (pea_cons (pee_ix (xm_ix (hu1 hu)) (pee_name 2) (pee_name 8)) (pea_cons (pee_ix (xm_ix (hu1 hu)) (pee_name 1) (pee_op om_add (pee_name 8) pee_int)) pea_nil)))) pea_nil)))))) (pess_one (pes_ret (pee_name 9)))))))))))))
theorem sc__law_is_int : FnScope ["_law_given"] ["_law_given"] (defScope s__law_is_int) := ⟨rfl, rfl, rfl, by decide +kernel, rfl, by decide +kernel, by decide +kernel⟩
noncomputable def b__law_is_int : Mo Fl := mRet (mAndV (mIs ti_int (mName 0)) (mNotV (mIs ti_bool (mName 0))))
noncomputable def m__law_is_int : Fn := fnM 1 b__law_is_int
theorem okw__law_is_int (T : Tx P K mg) : FnW P w K mg base 1 T.f__law_is_int T.fd__law_is_int ["_law_given"] m__law_is_int := have sc := sc__law_is_int; defW2 T.F__law_is_int sc rfl fun cdv A outer s H E hr hu tk pa => pess_one (pes_ret (pee_and (pee_is T.ist_int (ClsV.ty _) (fun _ => by exact pe_bltn rfl T.n_int (by decide +kernel) rfl) T.n_isinstance (pee_name 0)) (pee_one (pee_not (pee_is T.ist_bool (ClsV.ty _) (fun _ => by exact pe_bltn rfl T.n_bool (by decide +kernel) rfl) T.n_isinstance (pee_name 0))))))
theorem ok__law_is_int (T : Tx P K mg) : FnM P w K mg base 1 T.f__law_is_int T.fd__law_is_int ["_law_given"] m__law_is_int := (okw__law_is_int T).toM
theorem sc__law_same_steps : FnScope ["_law_told", "_law_due", "_law_k", "_law_part"] ["_law_told", "_law_due"] (defScope s__law_same_steps) := ⟨rfl, rfl, rfl, by decide +kernel, rfl, by decide +kernel, by decide +kernel⟩
noncomputable def b__law_same_steps : Mo Fl := mSeq (mIf (mOr (mNot (mB (mIs ti_list (mName 0)))) (mB (mBin fNeD (mCB fLen (mCons (mName 0) mNil)) (mCB fLen (mCons (mName 1) mNil))))) (mRet (mC (.bl false))) mNext) (mSeq (mFor (mRng1 (mCons (mCB fLen (mCons (mName 1) mNil)) mNil)) (tgN 2) (mSeq (mIf (mOr (mNot (mB (mIs ti_tuple (mBin fIx (mName 0) (mName 2))))) (mB (mBin fNeD (mBin fIx (mName 0) (mName 2)) (mBin fIx (mName 1) (mName 2))))) (mRet (mC (.bl false))) mNext) (mIf (mOr (mNot (mB (mIs ti_str (mBin fIx (mBin fIx (mName 0) (mName 2)) (mC (.int 0)))))) (mNot (mB (mCB fAll (mCons (mLc [3] (mIter (mSl (mBin fIx (mName 0) (mName 2)) (mPart (mC (.int 1))) mNoPart)) (tgN 3) mYes (mCall 1 m__law_is_int (mCons (mName 3) mNil))) mNil))))) (mRet (mC (.bl false))) mNext))) (mRet (mC (.bl true))))
noncomputable def m__law_same_steps : Fn := fnM 4 b__law_same_steps
theorem ok__law_same_steps (T : Tx P K mg) : FnM P w K mg base 2 T.f__law_same_steps T.fd__law_same_steps ["_law_told", "_law_due"] m__law_same_steps := have sc := sc__law_same_steps; defM2 T.F__law_same_steps sc rfl fun cdv A outer s H E hr hu tk pa => pess_cons (pes_if ((pew_or (pet_not (pet_val (pee_is T.ist_list (ClsV.ty _) (fun _ => by exact pe_bltn rfl T.n_list (by decide +kernel) rfl) T.n_isinstance (pee_name 0)))) (pew_or1 (pet_cmp (om_neD (hu64 hu)) (pee_cb cm_len T.n_len (pea_cons (pee_name 0) pea_nil)) (pee_cb cm_len T.n_len (pea_cons (pee_name 1) pea_nil))))).pt) (pess_one (pes_ret pee_bl)) pess_nil) (pess_cons (pes_for pa (pei_rng1 T.n_range (pea_cons (pee_cb cm_len T.n_len (pea_cons (pee_name 1) pea_nil)) pea_nil)) (peg_name 2 sc.nd) (pess_cons (pes_if ((pew_or (pet_not (pet_val (pee_is T.ist_tuple (ClsV.ty _) (fun _ => by exact pe_bltn rfl T.n_tuple (by decide +kernel) rfl) T.n_isinstance (pee_ix (xm_ix (hu1 hu)) (pee_name 0) (pee_name 2))))) (pew_or1 (pet_cmp (om_neD (hu64 hu)) (pee_ix (xm_ix (hu1 hu)) (pee_name 0) (pee_name 2)) (pee_ix (xm_ix (hu1 hu)) (pee_name 1) (pee_name 2))))).pt) (pess_one (pes_ret pee_bl)) pess_nil) (pess_one (pes_if ((pew_or (pet_not (pet_val (pee_is T.ist_str (ClsV.ty _) (fun _ => by exact pe_bltn rfl T.n_str (by decide +kernel) rfl) T.n_isinstance (pee_ix (xm_ix (hu1 hu)) (pee_ix (xm_ix (hu1 hu)) (pee_name 0) (pee_name 2)) pee_int)))) (pew_or1 (pet_not (pet_val (pee_cb cm_all T.n_all (pea_cons (pee_lc sc.nd (own := [("_law_part", 3)]) (l := [3]) (pei_seq (pee_sl (pee_ix (xm_ix (hu1 hu)) (pee_name 0) (pee_name 2)) (peo_some pee_int) peo_none)) ⟨⟨rfl, by first | decide +kernel | (dsimp only [cxOf, envOfC, compEnvC, relabel]; decide +kernel) | exact of_decide_eq_true (by kernel_rfl), by first | decide +kernel | (dsimp only [cxOf, envOfC, compEnvC, relabel]; decide +kernel) | exact of_decide_eq_true (by kernel_rfl), by first | decide +kernel | (dsimp only [cxOf, envOfC, compEnvC, relabel]; decide +kernel) | exact of_decide_eq_true (by kernel_rfl), by first | decide +kernel | (dsimp only [cxOf, envOfC, compEnvC, relabel]; decide +kernel) | exact of_decide_eq_true (by kernel_rfl)⟩, (tgN_ne _), by decide, fun _ _ _ _ _ => by exact peg_name 3 sc.nd, fun _ _ _ _ _ => by exact pets_nil, fun _ _ _ _ _ => by exact pee_callN rfl (ok__law_is_int T) (hr.mono (by decide)) T.g__law_is_int T.F__law_is_int.kp T.b__law_is_int tk0 (pea_cons (pee_name 3) pea_nil)⟩) pea_nil)))))).pt) (pess_one (pes_ret pee_bl)) pess_nil)))) (pess_one (pes_ret pee_bl)))
theorem sc_law : FnScope ["_law_script", "_law_rows_here", "_law_layout", "_law_place", "_law_numbers_here", "_law_chain", "_law_due", "_law_told", "_law_row_here"] ["_law_script"] (defScope s_law) := ⟨rfl, rfl, rfl, by decide +kernel, rfl, by decide +kernel, by decide +kernel⟩
noncomputable def b_law : Mo Fl := mSeq (mAsg 1 (mCall 3 m__law_rows (mCons (mCall 2 m__law_cell (mCons (mName 0) (mCons (mC (.int 0)) mNil))) (mCons (mC (.int 3)) (mCons (mC (.int 6)) mNil))))) (mSeq (mAsg 2 (mMake "Layout" 2 m_Layout___init__ [] (mCons (mLc [8] (mIter (mName 1)) (tgN 8) mYes (mCB fList (mCons (mName 8) mNil))) mNil))) (mSeq (mFor (mRng2 (mCons (mC (.int 1)) (mCons (mC (.int 7)) mNil))) (tgN 3) (mSeq (mAsg 4 (mCall 3 m__law_numbers (mCons (mCall 2 m__law_cell (mCons (mName 0) (mCons (mName 3) mNil))) (mCons (mBin fAdd (mC (.int 5)) (mName 3)) (mCons (mBin fAdd (mLst (mCons (mC (.int 6)) (mCons (mC (.int 30)) (mCons (mC (.int 64)) (mCons (mC (.int 8)) mNil))))) (mBin fMul (mLst (mCons (mC (.int 8)) mNil)) (mC (.int 7)))) mNil))))) (mSeq (mAsg 5 (mCall 2 m__law_drawn (mCons (mName 1) (mCons (mName 4) mNil)))) (mSeq (mIf (mAnd (mB (mBin fEqD (mBin fIx (mName 4) (mC (.int 0))) (mC (.int 2)))) (mB (mBin fGt (mCB fLen (mCons (mName 5) mNil)) (mC (.int 2))))) (mAsg 5 (mBin fAdd (mBin fAdd (mSl (mName 5) mNoPart (mPart (mC (.int 1)))) (mRevT (mSl (mName 5) (mPart (mC (.int 1))) (mPart (mUn fNeg (mC (.int 1))))))) (mSl (mName 5) (mPart (mUn fNeg (mC (.int 1)))) mNoPart))) mNext) (mIf (mNot (mB (mCall 2 m__law_valid (mCons (mName 1) (mCons (mName 5) mNil))))) (mIf (mNot (mB (mCall 2 m__law_refused (mCons (mName 2) (mCons (mName 5) mNil))))) (mRet (mC (.bl false))) mNext) (mSeq (mAsg 6 (mCall 2 m__law_run_of (mCons (mName 1) (mCons (mName 5) mNil)))) (mSeq (mAsg 7 (mCell (mCall 2 m_chain_run (mCons (mName 2) (mCons (mName 5) mNil))))) (mSeq (mIf (mNot (mB (mCall 2 m__law_same_steps (mCons (mName 7) (mCons (mName 6) mNil))))) (mRet (mC (.bl false))) mNext) (mSeq (mDrop (mMut .lst fAppend (mName 7) (mCons (mTup (mCons (mC (.str "settle")) mNil)) mNil))) (mSeq (mDrop (mMut .lst fPop (mName 7) (mCons (mC (.int 0)) mNil))) (mIf (mNot (mB (mCall 2 m__law_same_steps (mCons (mCell (mCall 2 m_chain_run (mCons (mName 2) (mCons (mName 5) mNil)))) (mCons (mName 6) mNil))))) (mRet (mC (.bl false))) mNext))))))))))) (mRet (mC (.bl true)))))
noncomputable def law_s0 : Mo Fl := (mAsg 1 (mCall 3 m__law_rows (mCons (mCall 2 m__law_cell (mCons (mName 0) (mCons (mC (.int 0)) mNil))) (mCons (mC (.int 3)) (mCons (mC (.int 6)) mNil)))))
noncomputable def law_s1 : Mo Fl := (mAsg 2 (mMake "Layout" 2 m_Layout___init__ [] (mCons (mLc [8] (mIter (mName 1)) (tgN 8) mYes (mCB fList (mCons (mName 8) mNil))) mNil)))
noncomputable def law_s2b_s0 : Mo Fl := (mAsg 4 (mCall 3 m__law_numbers (mCons (mCall 2 m__law_cell (mCons (mName 0) (mCons (mName 3) mNil))) (mCons (mBin fAdd (mC (.int 5)) (mName 3)) (mCons (mBin fAdd (mLst (mCons (mC (.int 6)) (mCons (mC (.int 30)) (mCons (mC (.int 64)) (mCons (mC (.int 8)) mNil))))) (mBin fMul (mLst (mCons (mC (.int 8)) mNil)) (mC (.int 7)))) mNil)))))
noncomputable def law_s2b_s1 : Mo Fl := (mAsg 5 (mCall 2 m__law_drawn (mCons (mName 1) (mCons (mName 4) mNil))))
noncomputable def law_s2b_s2a_s0 : Mo Fl := (mAsg 5 (mBin fAdd (mBin fAdd (mSl (mName 5) mNoPart (mPart (mC (.int 1)))) (mRevT (mSl (mName 5) (mPart (mC (.int 1))) (mPart (mUn fNeg (mC (.int 1))))))) (mSl (mName 5) (mPart (mUn fNeg (mC (.int 1)))) mNoPart)))
noncomputable def law_s2b_s2a_t0 : Mo Fl := law_s2b_s2a_s0
noncomputable def law_s2b_s2 : Mo Fl := mIf (mAnd (mB (mBin fEqD (mBin fIx (mName 4) (mC (.int 0))) (mC (.int 2)))) (mB (mBin fGt (mCB fLen (mCons (mName 5) mNil)) (mC (.int 2))))) law_s2b_s2a_t0 mNext
noncomputable def law_s2b_s3e_s0 : Mo Fl := (mAsg 6 (mCall 2 m__law_run_of (mCons (mName 1) (mCons (mName 5) mNil))))
noncomputable def law_s2b_s3e_s1 : Mo Fl := (mAsg 7 (mCell (mCall 2 m_chain_run (mCons (mName 2) (mCons (mName 5) mNil)))))
noncomputable def law_s2b_s3e_s2 : Mo Fl := (mIf (mNot (mB (mCall 2 m__law_same_steps (mCons (mName 7) (mCons (mName 6) mNil))))) (mRet (mC (.bl false))) mNext)
noncomputable def law_s2b_s3e_s3 : Mo Fl := (mDrop (mMut .lst fAppend (mName 7) (mCons (mTup (mCons (mC (.str "settle")) mNil)) mNil)))
noncomputable def law_s2b_s3e_s4 : Mo Fl := (mDrop (mMut .lst fPop (mName 7) (mCons (mC (.int 0)) mNil)))
noncomputable def law_s2b_s3e_s5 : Mo Fl := (mIf (mNot (mB (mCall 2 m__law_same_steps (mCons (mCell (mCall 2 m_chain_run (mCons (mName 2) (mCons (mName 5) mNil)))) (mCons (mName 6) mNil))))) (mRet (mC (.bl false))) mNext)
noncomputable def law_s2b_s3e_t5 : Mo Fl := law_s2b_s3e_s5
noncomputable def law_s2b_s3e_t4 : Mo Fl := mSeq law_s2b_s3e_s4 law_s2b_s3e_t5
noncomputable def law_s2b_s3e_t3 : Mo Fl := mSeq law_s2b_s3e_s3 law_s2b_s3e_t4
noncomputable def law_s2b_s3e_t2 : Mo Fl := mSeq law_s2b_s3e_s2 law_s2b_s3e_t3
noncomputable def law_s2b_s3e_t1 : Mo Fl := mSeq law_s2b_s3e_s1 law_s2b_s3e_t2
noncomputable def law_s2b_s3e_t0 : Mo Fl := mSeq law_s2b_s3e_s0 law_s2b_s3e_t1
noncomputable def law_s2b_s3 : Mo Fl := mIf (mNot (mB (mCall 2 m__law_valid (mCons (mName 1) (mCons (mName 5) mNil))))) (mIf (mNot (mB (mCall 2 m__law_refused (mCons (mName 2) (mCons (mName 5) mNil))))) (mRet (mC (.bl false))) mNext) law_s2b_s3e_t0
noncomputable def law_s2b_t3 : Mo Fl := law_s2b_s3
noncomputable def law_s2b_t2 : Mo Fl := mSeq law_s2b_s2 law_s2b_t3
noncomputable def law_s2b_t1 : Mo Fl := mSeq law_s2b_s1 law_s2b_t2
noncomputable def law_s2b_t0 : Mo Fl := mSeq law_s2b_s0 law_s2b_t1
noncomputable def law_s2 : Mo Fl := mFor (mRng2 (mCons (mC (.int 1)) (mCons (mC (.int 7)) mNil))) (tgN 3) law_s2b_t0
noncomputable def law_s3 : Mo Fl := (mRet (mC (.bl true)))
noncomputable def law_t3 : Mo Fl := law_s3
noncomputable def law_t2 : Mo Fl := mSeq law_s2 law_t3
noncomputable def law_t1 : Mo Fl := mSeq law_s1 law_t2
noncomputable def law_t0 : Mo Fl := mSeq law_s0 law_t1
theorem law_cut : b_law = law_t0 := rfl
noncomputable def m_law : Fn := fnM 9 b_law
theorem ok_law (T : Tx P K mg) : FnM P w K mg base 7 T.f_law T.fd_law ["_law_script"] m_law := have sc := sc_law; defM2 T.F_law sc rfl fun cdv A outer s H E hr hu tk pa => pess_cons (pes_set 1 sc.nd (pee_callN rfl (ok__law_rows T) (hr.mono (by decide)) T.g__law_rows T.F__law_rows.kp T.b__law_rows tk (pea_cons (pee_callN rfl (ok__law_cell T) (hr.mono (by decide)) T.g__law_cell T.F__law_cell.kp T.b__law_cell tk (pea_cons (pee_name 0) (pea_cons pee_int pea_nil))) (pea_cons pee_int (pea_cons pee_int pea_nil))))) (pess_cons (pes_set 2 sc.nd (pee_makeN rfl T.c_Layout ⟨T.mk_Layout, T.mt_Layout___init__.at_, T.mt_Layout___init__.fn, T.kp_Layout⟩ (ok_Layout___init__ T) (hr.mono (by decide)) T.b_Layout___init__ .nil Dfl.nil tk (pea_cons (pee_lc sc.nd (own := [("_law_row_here", 8)]) (l := [8]) (pei_seq (pee_name 1)) ⟨⟨rfl, by first | decide +kernel | (dsimp only [cxOf, envOfC, compEnvC, relabel]; decide +kernel) | exact of_decide_eq_true (by kernel_rfl), by first | decide +kernel | (dsimp only [cxOf, envOfC, compEnvC, relabel]; decide +kernel) | exact of_decide_eq_true (by kernel_rfl), by first | decide +kernel | (dsimp only [cxOf, envOfC, compEnvC, relabel]; decide +kernel) | exact of_decide_eq_true (by kernel_rfl), by first | decide +kernel | (dsimp only [cxOf, envOfC, compEnvC, relabel]; decide +kernel) | exact of_decide_eq_true (by kernel_rfl)⟩, (tgN_ne _), by decide, fun _ _ _ _ _ => by exact peg_name 8 sc.nd, fun _ _ _ _ _ => by exact pets_nil, fun _ _ _ _ _ => by exact pee_ct cm_list T.n_list (pea_cons (pee_name 8) pea_nil)⟩) pea_nil))) (pess_cons (pes_for pa (pei_rng2 T.n_range (pea_cons pee_int (pea_cons pee_int pea_nil))) (peg_name 3 sc.nd) (pess_cons (pes_set 4 sc.nd (pee_callN rfl (ok__law_numbers T) (hr.mono (by decide)) T.g__law_numbers T.F__law_numbers.kp T.b__law_numbers tk (pea_cons (pee_callN rfl (ok__law_cell T) (hr.mono (by decide)) T.g__law_cell T.F__law_cell.kp T.b__law_cell tk (pea_cons (pee_name 0) (pea_cons (pee_name 3) pea_nil))) (pea_cons (pee_op om_add pee_int (pee_name 3)) (pea_cons (pee_op om_add (pee_lst (pea_cons pee_int (pea_cons pee_int (pea_cons pee_int (pea_cons pee_int pea_nil))))) (pee_op om_mul (pee_lst (pea_cons pee_int pea_nil)) pee_int)) pea_nil))))) (pess_cons (pes_set 5 sc.nd (pee_callN rfl (ok__law_drawn T) (hr.mono (by decide)) T.g__law_drawn T.F__law_drawn.kp T.b__law_drawn tk (pea_cons (pee_name 1) (pea_cons (pee_name 4) pea_nil)))) (pess_cons (pes_if ((pew_and (pet_cmp (om_eqD (hu64 hu)) (pee_ix (xm_ix (hu1 hu)) (pee_name 4) pee_int) pee_int) (pew_and1 (pet_cmp om_gt (pee_cb cm_len T.n_len (pea_cons (pee_name 5) pea_nil)) pee_int))).pt) (pess_one (pes_set 5 sc.nd (pee_op om_add (pee_op om_add (pee_sl (pee_name 5) peo_none (peo_some pee_int)) (pee_revT (pee_sl (pee_name 5) (peo_some pee_int) (peo_some (pee_un um_neg pee_int))))) (pee_sl (pee_name 5) (peo_some (pee_un um_neg pee_int)) peo_none)))) pess_nil) (pess_one (pes_if (pet_not (pet_val (pee_callN rfl (ok__law_valid T) (hr.mono (by decide)) T.g__law_valid T.F__law_valid.kp T.b__law_valid tk (pea_cons (pee_name 1) (pea_cons (pee_name 5) pea_nil))))) (pess_one (pes_if (pet_not (pet_val (pee_callN rfl (ok__law_refused T) (hr.mono (by decide)) T.g__law_refused T.F__law_refused.kp T.b__law_refused tk (pea_cons (pee_name 2) (pea_cons (pee_name 5) pea_nil))))) (pess_one (pes_ret pee_bl)) pess_nil)) (pess_cons (pes_set 6 sc.nd (pee_callN rfl (ok__law_run_of T) (hr.mono (by decide)) T.g__law_run_of T.F__law_run_of.kp T.b__law_run_of tk (pea_cons (pee_name 1) (pea_cons (pee_name 5) pea_nil)))) (pess_cons (pes_set 7 sc.nd (pee_cell (pee_callN rfl (ok_chain_run T) (hr.mono (by decide)) T.g_chain_run T.F_chain_run.kp T.b_chain_run tk (pea_cons (pee_name 2) (pea_cons (pee_name 5) pea_nil))))) (pess_cons (pes_if (pet_not (pet_val (pee_callN rfl (ok__law_same_steps T) (hr.mono (by decide)) T.g__law_same_steps T.F__law_same_steps.kp T.b__law_same_steps tk (pea_cons (pee_name 7) (pea_cons (pee_name 6) pea_nil))))) (pess_one (pes_ret pee_bl)) pess_nil) (pess_cons (pes_expr (pee_mut (k := .lst) PySem.F.plainAttrs_list PySem.F.slot_list_append PySem.F.type_list_append mt_append mu_append (pee_name 7) (pea_cons (pee_tup (pea_cons pee_str pea_nil)) pea_nil))) (pess_cons (pes_expr (pee_mut (k := .lst) PySem.F.plainAttrs_list PySem.F.slot_list_pop PySem.F.type_list_pop mt_popAt mu_pop (pee_name 7) (pea_cons pee_int pea_nil))) (pess_one (pes_if (pet_not (pet_val (pee_callN rfl (ok__law_same_steps T) (hr.mono (by decide)) T.g__law_same_steps T.F__law_same_steps.kp T.b__law_same_steps tk (pea_cons (pee_cell (pee_callN rfl (ok_chain_run T) (hr.mono (by decide)) T.g_chain_run T.F_chain_run.kp T.b_chain_run tk (pea_cons (pee_name 2) (pea_cons (pee_name 5) pea_nil)))) (pea_cons (pee_name 6) pea_nil))))) (pess_one (pes_ret pee_bl)) pess_nil))))))))))))) (pess_one (pes_ret pee_bl))))
end
end Z
set_option linter.all false
set_option maxRecDepth 100000
namespace Z
open PySem PySem.Spec PyProof.Rows L2
theorem x_cell (ns : List Int) (k : Nat) (G : List Cell) : m__law_cell [.frl (ns.map W.int), .int k] G = some (.ok (.val (.int (ns.getD k 0))), G) := by
  unfold m__law_cell
  rw [fnM_e]
  by_cases h : k < ns.length
  · simp [b__law_cell, h, atI_mapI]
  · simp [b__law_cell, h]
theorem x_numbers (c salt : Int) (ls : List Int) (hl : ∀ l ∈ ls, 0 < l ∧ l.natAbs.log2 < 9000) (hn : ls.length ≤ 1000) (G : List Cell) :
    ∃ xs : List Int, m__law_numbers [.int c, .int salt, .lst (ls.map W.int)] G = some (.ok (.own (.lst (xs.map W.int))), G) ∧ xs.length = ls.length ∧ ∀ (i : Nat) (x l : Int), xs[i]? = some x → ls[i]? = some l → 0 ≤ x ∧ x < l := by
  unfold m__law_numbers
  rw [fnM_e]
  simp [b__law_numbers, sz]
  generalize hF : forL _ _ _ _ = F
  obtain ⟨s', rfl, xs, rest, v, rfl, h1, h2⟩ := forL_at hF (fun i s => ∃ (xs : List Int) (rest : Int) (v : SV), s = ⟨[.val (.int c), .val (.int salt), .val (.lst (ls.map W.int)), .val (.int rest), .own (.lst (xs.map W.int)), v], G⟩ ∧ xs.length = i ∧
    ∀ (i : Nat) (x l : Int), xs[i]? = some x → ls[i]? = some l → 0 ≤ x ∧ x < l) ⟨[], c, .non, rfl, rfl, fun i x l h => by simp at h⟩ (by
      rintro i hi s ⟨xs, rest, v, rfl, h1, h2⟩
      simp at hi
      have hm : ls[i] ∈ ls := List.getElem_mem hi
      obtain ⟨l1, l2⟩ := hl _ hm
      have ext : ∀ y : Int, 0 ≤ y → y < ls[i] → ∀ (j : Nat) (x l : Int), (xs ++ [y])[j]? = some x → ls[j]? = some l → 0 ≤ x ∧ x < l := fun y y0 y1 j x l e1 e2 => by
        rcases Nat.lt_or_ge j xs.length with q | q
        · rw [List.getElem?_append_left q] at e1
          exact h2 j x l e1 e2
        · rw [List.getElem?_append_right q] at e1
          have : j = i := by
            have := get_lt e1
            simp at this
            omega
          subst this
          rw [h1] at e1
          simp at e1
          rw [List.getElem?_eq_getElem hi] at e2
          cases e2
          subst e1
          exact ⟨y0, y1⟩
      have s1 : xs.length < sz := by show _ < 16777216; omega
      by_cases hc : c < 1000000000000000000
      · have l7 : Nat.log2 7 < 9000 := by decide
        simp [fAppend, s1, CPow, CMul, CDivW, hc, l1, l7]
        exact ⟨xs ++ [(rest * 75 + 74 + salt) % 65537 / 7 % ls[i]], by simp, by simp [h1], ext _ (Int.emod_nonneg _ (by omega)) (Int.emod_lt_of_pos _ l1)⟩
      · simp [fAppend, s1, CPow, CMul, CDivW, hc, l1, l2]
        exact ⟨xs ++ [rest % ls[i]], by simp, by simp [h1], ext _ (Int.emod_nonneg _ (by omega)) (Int.emod_lt_of_pos _ l1)⟩)
  simp
  exact ⟨xs, rfl, by simpa using h1, h2⟩
def tupI (xs : List Int) : W := .tup (xs.map W.int)
def lstI (xs : List Int) : W := .lst (xs.map W.int)
@[simp] theorem ty_int {i : Int} : tyOfW (.int i) = some (.ty "int") := rfl
@[simp] theorem ty_bl {i : Bool} : tyOfW (.bl i) = some (.ty "bool") := rfl
@[simp] theorem ty_lst {i : List W} : tyOfW (.lst i) = some (.ty "list") := rfl
@[simp] theorem ty_frl {i : List W} : tyOfW (.frl i) = some (.ty "list") := rfl
@[simp] theorem ty_tup {i : List W} : tyOfW (.tup i) = some (.ty "tuple") := rfl
@[simp] theorem fFld_o {nms : List Str} {f nm : Str} {fs : List (Str × W)} : fFld nms f (.obj nm fs) = if nm ∈ nms then (fs.lookup f).map .imm else none := rfl
theorem emb_row : Emb tupI 1 := emb_tup emb_int
section
variable {r : List SV} {G : List Cell} {s : S} {rs : List (List Int)} {ms : List Int} {xs : List W}
@[simp] theorem look_tupI {k : List Int} : look (.val (tupI k)) ⟨r, G⟩ = some (.ok (tupI k), ⟨r, G⟩) := rfl
@[simp] theorem look_lstI {k : List Int} : look (.val (lstI k)) ⟨r, G⟩ = some (.ok (lstI k), ⟨r, G⟩) := rfl
@[simp] theorem deref_tupI {k : List Int} : derefW s (tupI k) = some (tupI k) := rfl
@[simp] theorem deref_lstI {k : List Int} : derefW s (lstI k) = some (lstI k) := rfl
@[simp] theorem walk_tupI {k : List Int} : walkOf s (tupI k) = some ⟨k.map W.int, none⟩ := rfl
@[simp] theorem walk_lstI {k : List Int} : walkOf s (lstI k) = some ⟨k.map W.int, none⟩ := rfl
@[simp] theorem ty_tupI {k : List Int} : tyOfW (tupI k) = some (.ty "tuple") := rfl
@[simp] theorem ty_lstI {k : List Int} : tyOfW (lstI k) = some (.ty "list") := rfl
end
@[simp] theorem intsOf_ints : ∀ xs : List Int, intsOf (xs.map W.int) = some xs
  | [] => rfl
  | x :: xs => by simp [intsOf, intsOf_ints xs]
def canon (xs : List Int) : List Int := ((List.range 8).filter fun (k : Nat) => decide ((k : Int) ∈ xs)).map fun (k : Nat) => (k : Int)
def bad (k : Int) : Bool := !(decide (0 ≤ k) && decide (k < 8))
theorem canon_e (xs : List Int) : canon xs = ((List.range 8).filter fun (k : Nat) => decide ((0 : Int) + (k : Int) ∈ xs)).map fun (k : Nat) => (0 : Int) + (k : Int) := by
  unfold canon
  simp only [Int.zero_add]
def mask (xs : List Int) : Int := (xs.map fun k => (2 : Int) ^ k.toNat).sum
theorem canon_mem {xs : List Int} {k : Int} (h : k ∈ canon xs) : 0 ≤ k ∧ k < 8 ∧ k ∈ xs := by
  unfold canon at h
  simp at h
  obtain ⟨j, ⟨h1, h2⟩, rfl⟩ := h
  exact ⟨by omega, by omega, h2⟩
theorem canon_len (xs : List Int) : (canon xs).length ≤ 8 := by
  unfold canon
  rw [List.length_map]
  exact Nat.le_trans (List.length_filter_le _ _) (by simp)
theorem canon_idem (xs : List Int) : canon (canon xs) = canon xs := by
  have : ∀ k : Int, k ∈ canon (canon xs) ↔ k ∈ canon xs := by
    intro k
    constructor
    · intro h; exact (canon_mem h).2.2
    · intro h
      obtain ⟨a, b, _⟩ := canon_mem h
      unfold canon
      simp
      exact ⟨k.toNat, ⟨by omega, by rw [Int.toNat_of_nonneg a]; simpa [canon] using h⟩, Int.toNat_of_nonneg a⟩
  unfold canon
  congr 1
  apply List.filter_congr
  intro k hk
  have hk8 := List.mem_range.mp hk
  by_cases h : (k : Int) ∈ xs
  · have : (k : Int) ∈ canon xs := by
      unfold canon; simp; exact ⟨k, ⟨hk8, h⟩, rfl⟩
    simpa [h, canon] using this
  · have : ¬ (k : Int) ∈ canon xs := fun z => h (canon_mem z).2.2
    simpa [h, canon] using this
end Z
set_option linter.all false
set_option maxRecDepth 100000
namespace Z
open PySem PySem.Spec PyProof.Rows L2
def lay (rs : List (List Int)) : W := .obj "Layout" [("rows", .lst (rs.map tupI)), ("masks", .lst (rs.map fun xs => W.int (mask xs)))]
@[simp] theorem lk_rows {a b : W} : List.lookup ("rows" : Str) [("rows", a), ("masks", b)] = some a := rfl
@[simp] theorem lk_masks {a b : W} : List.lookup ("masks" : Str) [("rows", a), ("masks", b)] = some b := rfl
section
variable {r : List SV} {G : List Cell} {s : S} {rs : List (List Int)} {xs : List W}
@[simp] theorem look_lay : look (.val (lay rs)) ⟨r, G⟩ = some (.ok (lay rs), ⟨r, G⟩) := rfl
@[simp] theorem deref_lay : derefW s (lay rs) = some (lay rs) := rfl
@[simp] theorem fFld_lay : fFld fn_rows "rows" (lay rs) = some (.imm (.lst (rs.map tupI))) := by simp [lay, fn_rows]
@[simp] theorem fFld_layM : fFld fn_masks "masks" (lay rs) = some (.imm (.lst (rs.map fun xs => W.int (mask xs)))) := by simp [lay, fn_masks]
@[simp high] theorem chk_lay_check_copy : chk "Layout" "check_copy" (lay rs) ⟨r, G⟩ = some (.ok (), ⟨r, G⟩) := rfl
@[simp high] theorem chk_lay_is_line : chk "Layout" "is_line" (lay rs) ⟨r, G⟩ = some (.ok (), ⟨r, G⟩) := rfl
@[simp high] theorem chk_lay_lines : chk "Layout" "lines" (lay rs) ⟨r, G⟩ = some (.ok (), ⟨r, G⟩) := rfl
@[simp high] theorem chk_lay_shared : chk "Layout" "shared" (lay rs) ⟨r, G⟩ = some (.ok (), ⟨r, G⟩) := rfl
@[simp high] theorem chk_lay_keepers : chk "Layout" "keepers" (lay rs) ⟨r, G⟩ = some (.ok (), ⟨r, G⟩) := rfl
@[simp high] theorem chk_lay_with_key : chk "Layout" "with_key" (lay rs) ⟨r, G⟩ = some (.ok (), ⟨r, G⟩) := rfl
@[simp high] theorem chk_lay_without_key : chk "Layout" "without_key" (lay rs) ⟨r, G⟩ = some (.ok (), ⟨r, G⟩) := rfl
@[simp high] theorem chk1_lay : chk1 "Layout" (lay rs :: xs) ⟨r, G⟩ = some (.ok (), ⟨r, G⟩) := by simp [lay]
@[simp] theorem ty_lay : tyOfW (lay rs) = some (.own "Layout") := rfl
end
theorem x_len (rs : List (List Int)) (G : List Cell) : m_Layout___len__ [lay rs] G = some (.ok (.val (.int rs.length)), G) := by
  unfold m_Layout___len__
  rw [fnM_e]
  simp [b_Layout___len__]
def RowW (G : List Cell) (w : W) (xs : List Int) : Prop := w = tupI xs ∨ w = lstI xs ∨ ∃ n, w = .ref n ∧ G[n]? = some (.lst (xs.map W.int))
def RowsR (G : List Cell) (R : W) (ws : List W) : Prop := R = .lst ws ∨ R = .tup ws ∨ ∃ m, R = .ref m ∧ G[m]? = some (.lst ws)
theorem RowW.use {G : List Cell} {w : W} {xs : List Int} (h : RowW G w xs) : ∃ o w', (∀ r, walkOf ⟨r, G⟩ w = some ⟨xs.map W.int, o⟩) ∧ (∀ r, Wk.ok ⟨xs.map W.int, o⟩ ⟨r, G⟩) ∧ (∀ r, look (.val w) ⟨r, G⟩ = some (.ok w', ⟨r, G⟩)) ∧ ∀ k neg, fIn neg (.int k) w' = some (.imm (.bl (decide (k ∈ xs) != neg))) := by
  rcases h with rfl | rfl | ⟨n, rfl, h⟩
  · exact ⟨none, tupI xs, fun _ => rfl, fun _ => trivial, fun _ => rfl, fun k neg => fIn_tupI neg k xs⟩
  · exact ⟨none, lstI xs, fun _ => rfl, fun _ => trivial, fun _ => rfl, fun k neg => fIn_lI neg k xs⟩
  · exact ⟨some n, .lst (xs.map W.int), fun _ => by simp [h], fun _ => h, fun _ => by simp [h], fun k neg => fIn_lI neg k xs⟩
theorem RowsR.use {G : List Cell} {R : W} {ws : List W} (h : RowsR G R ws) : ∃ o R', (∀ r, walkOf ⟨r, G⟩ R = some ⟨ws, o⟩) ∧ (∀ r, Wk.ok ⟨ws, o⟩ ⟨r, G⟩) ∧ (∀ r, look (.val R) ⟨r, G⟩ = some (.ok R', ⟨r, G⟩)) ∧ fLen [R'] = some (.imm (.int ws.length)) := by
  rcases h with rfl | rfl | ⟨n, rfl, h⟩
  · exact ⟨none, _, fun _ => rfl, fun _ => trivial, fun _ => rfl, rfl⟩
  · exact ⟨none, _, fun _ => rfl, fun _ => trivial, fun _ => rfl, rfl⟩
  · exact ⟨some n, .lst ws, fun _ => by simp [h], fun _ => h, fun _ => by simp [h], rfl⟩
def fb (rss : List (List Int)) : Option Int := rss.flatten.find? bad
theorem fb_none {rss : List (List Int)} (h : ∀ x ∈ rss.flatten, bad x = false) : fb rss = none := by
  unfold fb
  rw [List.find?_eq_none]
  intro x hx; simp [h x hx]
theorem first_bad {rss : List (List Int)} {i : Nat} {xs : List Int} {j : Nat} {k : Int} (h1 : ∀ x ∈ (rss.take i).flatten, bad x = false) (h2 : rss[i]? = some xs) (h3 : ∀ x ∈ xs.take j, bad x = false) (h4 : xs[j]? = some k) (h5 : bad k = true) : fb rss = some k := by
  have hi := get_lt h2
  have hj := get_lt h4
  have e1 : rss = rss.take i ++ xs :: rss.drop (i + 1) := by
    rw [List.getElem?_eq_getElem hi] at h2
    cases h2
    rw [← drop_get hi, List.take_append_drop]
  have e2 : xs = xs.take j ++ k :: xs.drop (j + 1) := by
    rw [List.getElem?_eq_getElem hj] at h4
    cases h4
    rw [← drop_get hj, List.take_append_drop]
  unfold fb
  rw [e1, List.flatten_append, List.flatten_cons, List.find?_append]
  have n1 : (rss.take i).flatten.find? bad = none := by
    rw [List.find?_eq_none]
    intro x hx; simp [h1 x hx]
  rw [n1, Option.none_or, List.find?_append]
  have n2 : xs.find? bad = some k := by
    rw [e2, List.find?_append]
    have : (xs.take j).find? bad = none := by
      rw [List.find?_eq_none]
      intro x hx; simp [h3 x hx]
    rw [this, Option.none_or, List.find?_cons, h5]
  rw [n2]; rfl
theorem fb_canon {rss : List (List Int)} (h : ∀ xs ∈ rss, ∀ k ∈ xs, 0 ≤ k ∧ k < 8) : fb rss = none := fb_none fun x hx => by
  obtain ⟨l, hl, hx⟩ := List.mem_flatten.mp hx
  obtain ⟨a, b⟩ := h l hl x hx
  simp [bad, a, b]
theorem mask_at {G : List Cell} {a b c : SV} (xs : List Int) : lcL [4] (tgN 4) mYes (mBin fShl (mC (.int 1)) (mName 4)) ⟨(canon xs).map W.int, none⟩ ((canon xs).map W.int) [] ⟨[a, b, c, .val (tupI (canon xs)), .non], G⟩ =
    some (.ok (.own (.lst ((canon xs).map fun k => W.int ((2 : Int) ^ k.toNat)))), ⟨[a, b, c, .val (tupI (canon xs)), .non], G⟩) := by
  rw [lc_all (by exact trivial) (fun k => W.int ((2 : Int) ^ k.toNat))]
  · simp
  · intro k hk
    obtain ⟨k0, k8, _⟩ := canon_mem hk
    have kn : k.natAbs < 64 := by omega
    refine ⟨⟨[a, b, c, .val (tupI (canon xs)), .val (.int k)], G⟩, by simp, ⟨[a, b, c, .val (tupI (canon xs)), .val (.int k)], G⟩, ?_, by simp⟩
    have cp : CPow 1 k := by unfold CPow; constructor <;> first | omega | decide
    simp [cp]
  · have := canon_len xs
    show _ ≤ 16777216
    simp; omega
theorem masks_at {G : List Cell} {a b v4 : SV} {rows : W} {F : Option (Except Ex RV × S)} (rss : List (List Int)) (hl : rss.length ≤ sz) (hF : lcL [3] (tgN 3) mYes (mCB fSum (mCons (mLc [4] (mIter (mName 3)) (tgN 4) mYes (mBin fShl (mC (.int 1)) (mName 4))) mNil)) ⟨rss.map fun xs => tupI (canon xs), none⟩ (rss.map fun xs => tupI (canon xs)) [] ⟨[a, b, .val rows, .non, v4], G⟩ = F) :
    ∃ v4, F = some (.ok (.own (.lst (rss.map fun xs => W.int (mask (canon xs))))), ⟨[a, b, .val rows, .non, v4], G⟩) := by
  obtain ⟨acc, s', rfl, ⟨rfl, v4, rfl⟩, _⟩ := lc_at hF (fun i acc s => acc = (List.take i (rss.map fun xs => W.int (mask (canon xs)))) ∧ ∃ v4, s = ⟨[a, b, .val rows, .non, v4], G⟩) (fun _ _ _ _ => by trivial) ⟨by simp, _, rfl⟩ (by simpa using hl) (by
    rintro i hi acc s ⟨rfl, v4, rfl⟩
    simp at hi
    refine ⟨true, ⟨[a, b, .val rows, .val (tupI (canon rss[i])), v4], G⟩, by simp, fun _ => ⟨.int (mask (canon rss[i])), ⟨[a, b, .val rows, .val (tupI (canon rss[i])), .non], G⟩, ?_, ?_⟩, fun h => by cases h⟩
    · have ht : walkOf ⟨[a, b, .val rows, .val (tupI (canon rss[i])), .non], G⟩ (tupI (canon rss[i])) = some ⟨(canon rss[i]).map W.int, none⟩ := rfl
      have e : ∀ xs : List Int, intsOf (xs.map fun k => W.int ((2 : Int) ^ k.toNat)) = some (xs.map fun k => (2 : Int) ^ k.toNat) := fun xs => by
        have := intsOf_ints (xs.map fun k => (2 : Int) ^ k.toNat)
        rw [List.map_map] at this
        exact this
      simp [mask_at]
      unfold fSum
      simp [e]
      rfl
    · refine ⟨?_, .non, by simp⟩
      rw [List.take_succ_eq_append_getElem (by simpa using hi)]
      simp)
  exact ⟨v4, by rw [List.take_of_length_le (by simp)]⟩
theorem x_init {G : List Cell} {n : Nat} {R : W} {ws : List W} {rss : List (List Int)} (hR : RowsR G R ws) (hn : G[n]? = some (.ins "Layout" [])) (h1 : 1 ≤ ws.length) (h6 : ws.length ≤ 6) (hl : rss.length = ws.length) (hw : ∀ (i : Nat) w xs, ws[i]? = some w → rss[i]? = some xs → RowW G w xs) :
    (∃ k, fb rss = some k ∧ m_Layout___init__ [.ref n, R] G = some (.error ⟨"BadKey", [("key", .int k)]⟩, G)) ∨
    (fb rss = none ∧ m_Layout___init__ [.ref n, R] G = some (.ok (.val .non), G.set n (.ins "Layout" [("rows", .lst (rss.map fun xs => tupI (canon xs))), ("masks", .lst (rss.map fun xs => W.int (mask (canon xs))))]))) := by
  obtain ⟨o, R', k1, k2, k3, k4⟩ := hR.use
  unfold m_Layout___init__
  rw [fnM_e]
  have h1' : (1 : Int) ≤ ws.length := by omega
  have h6' : (ws.length : Int) ≤ 6 := by omega
  simp [b_Layout___init__, k3, k4, h1', h6', k1]
  generalize hF : forL _ _ _ _ = F
  obtain ⟨r, s', rfl, hr⟩ := forL_x hF (fun i s => ∃ v3 v4, s = ⟨[.val (.ref n), .val R, .own (.lst (List.take i (rss.map fun xs => tupI (canon xs)))), v3, v4], G⟩ ∧ ∀ x ∈ (rss.take i).flatten, bad x = false)
    (fun r s' => (r = .ok .nx ∧ (∃ v3 v4, s' = ⟨[.val (.ref n), .val R, .own (.lst (rss.map fun xs => tupI (canon xs))), v3, v4], G⟩) ∧ ∀ x ∈ rss.flatten, bad x = false) ∨
      ∃ k, r = .error ⟨"BadKey", [("key", .int k)]⟩ ∧ s'.G = G ∧ fb rss = some k)
    (by rintro i s ⟨v3, v4, rfl, _⟩; exact k2 _) ⟨.non, .non, by simp [sz], by simp⟩
    (by
      rintro s ⟨v3, v4, rfl, hg⟩
      rw [← hl, List.take_length] at hg
      exact .inl ⟨rfl, ⟨v3, v4, by rw [← hl, List.take_of_length_le (by simp)]⟩, hg⟩) (by
      rintro i hi s ⟨v3, v4, rfl, hg⟩
      have hi2 : i < rss.length := by omega
      obtain ⟨o2, w', q1, q2, q3, q4⟩ := (hw i ws[i] rss[i] (by simp [hi]) (by simp [hi2])).use
      simp [q1]
      generalize hF2 : forL _ _ _ _ = F2
      obtain ⟨r2, s2, rfl, hr2⟩ := forL_x hF2 (fun j s => ∃ v4, s = ⟨[.val (.ref n), .val R, .own (.lst (List.take i (rss.map fun xs => tupI (canon xs)))), .val ws[i], v4], G⟩ ∧ ∀ x ∈ rss[i].take j, bad x = false)
        (fun r s' => (r = .ok .nx ∧ (∃ v4, s' = ⟨[.val (.ref n), .val R, .own (.lst (List.take i (rss.map fun xs => tupI (canon xs)))), .val ws[i], v4], G⟩) ∧ ∀ x ∈ rss[i], bad x = false) ∨
          ∃ k, r = .error ⟨"BadKey", [("key", .int k)]⟩ ∧ s'.G = G ∧ fb rss = some k)
        (by rintro j s ⟨v4, rfl, _⟩; exact q2 _) ⟨v4, rfl, by simp⟩
        (by
          rintro s ⟨v4, rfl, hg2⟩
          simp at hg2
          exact .inl ⟨rfl, ⟨v4, rfl⟩, hg2⟩) (by
          rintro j hj s ⟨v4, rfl, hg2⟩
          simp at hj
          by_cases hb : bad rss[i][j] = true
          · refine ⟨.error ⟨"BadKey", [("key", .int rss[i][j])]⟩, ⟨[.val (.ref n), .val R, .own (.lst (List.take i (rss.map fun xs => tupI (canon xs)))), .val ws[i], .val (.int rss[i][j])], G⟩, ?_, .inr ⟨_, rfl, rfl, first_bad hg (by simp [hi2]) hg2 (by simp [hj]) hb⟩⟩
            unfold bad at hb
            by_cases h0 : 0 ≤ rss[i][j]
            · have h8 : ¬ rss[i][j] < 8 := by simpa [h0] using hb
              simp [h0, h8]
            · simp [h0]
          · have hb' : bad rss[i][j] = false := by simpa using hb
            refine ⟨.ok .nx, ⟨[.val (.ref n), .val R, .own (.lst (List.take i (rss.map fun xs => tupI (canon xs)))), .val ws[i], .val (.int rss[i][j])], G⟩, ?_, _, rfl, ?_⟩
            · unfold bad at hb'
              simp at hb'
              simp [hb'.1, hb'.2]
            · intro x hx
              rw [List.take_succ_eq_append_getElem hj] at hx
              rcases List.mem_append.mp hx with hx | hx
              · exact hg2 x hx
              · simp at hx
                rw [hx]; exact hb')
      rcases hr2 with ⟨rfl, ⟨v4', rfl⟩, hg2⟩ | ⟨k, rfl, hG, hf⟩
      · have hc : lcL [4] (tgN 4) (mB (mBin (fIn false) (mName 4) (mName 3))) (mName 4) ⟨rngW 0 8, none⟩ (rngW 0 8) [] ⟨[.val (.ref n), .val R, .own (.lst (List.take i (rss.map fun xs => tupI (canon xs)))), .val ws[i], .non], G⟩ =
            some (.ok (.own (.lst ((canon rss[i]).map W.int))), ⟨[.val (.ref n), .val R, .own (.lst (List.take i (rss.map fun xs => tupI (canon xs)))), .val ws[i], .non], G⟩) := by
          rw [rng_map, lc_pure (by exact trivial) (fun (k : Nat) => decide ((0 : Int) + (k : Int) ∈ rss[i])) (fun (k : Nat) => W.int ((0 : Int) + (k : Int)))]
          · rw [canon_e]; simp
          · intro k _
            refine ⟨⟨[.val (.ref n), .val R, .own (.lst (List.take i (rss.map fun xs => tupI (canon xs)))), .val ws[i], .val (.int ((0 : Int) + (k : Int)))], G⟩, ?_, ?_, ?_⟩
            · simp [q3, q4]
            · intro _
              exact ⟨⟨[.val (.ref n), .val R, .own (.lst (List.take i (rss.map fun xs => tupI (canon xs)))), .val ws[i], .val (.int ((0 : Int) + (k : Int)))], G⟩, by simp, by simp⟩
            · intro _; simp
          · simp [sz]
        have hsz : min i rss.length < sz := by show _ < 16777216; omega
        simp [hc, fTuple, fAppend, hsz]
        refine ⟨_, _, ⟨rfl, rfl⟩, ?_⟩
        simp
        refine ⟨?_, ?_⟩
        · rw [List.take_succ_eq_append_getElem (by simpa using hi2)]
          simp [tupI]
        · intro x xs hx hxs
          rw [List.take_succ_eq_append_getElem hi2] at hx
          rcases List.mem_append.mp hx with hx | hx
          · exact hg x (List.mem_flatten.mpr ⟨xs, hx, hxs⟩)
          · simp at hx
            subst hx
            exact hg2 x hxs
      · exact ⟨_, _, rfl, .inr ⟨k, rfl, hG, hf⟩⟩)
  rcases hr with ⟨rfl, ⟨v3, v4, rfl⟩, hg⟩ | ⟨k, rfl, hG, hf⟩
  · refine .inr ⟨?_, ?_⟩
    · exact fb_none hg
    · have hlz : rss.length ≤ sz := by show _ ≤ 16777216; omega
      simp [hn, fn_rows, putFW]
      generalize hF3 : lcL _ _ _ _ _ _ _ _ = F3
      obtain ⟨v5, rfl⟩ := masks_at rss hlz hF3
      have hnl : n < G.length := get_lt hn
      have hne : ¬ (("rows" : Str) = "masks") := by decide
      simp [fn_masks, putFW, hnl, hne]
  · refine .inl ⟨k, hf, ?_⟩
    simp [hG]
theorem RowW.mono {G G' : List Cell} {w : W} {xs : List Int} (h : RowW G w xs) (hp : ∀ (n : Nat) c, G[n]? = some c → G'[n]? = some c) : RowW G' w xs := by
  rcases h with h | h | ⟨n, e, h⟩
  · exact .inl h
  · exact .inr (.inl h)
  · exact .inr (.inr ⟨n, e, hp _ _ h⟩)
theorem RowsR.mono {G G' : List Cell} {w : W} {xs : List W} (h : RowsR G w xs) (hp : ∀ (n : Nat) c, G[n]? = some c → G'[n]? = some c) : RowsR G' w xs := by
  rcases h with h | h | ⟨n, e, h⟩
  · exact .inl h
  · exact .inr (.inl h)
  · exact .inr (.inr ⟨n, e, hp _ _ h⟩)
theorem app_pre {G E : List Cell} (n : Nat) (c : Cell) (h : G[n]? = some c) : (G ++ E)[n]? = some c := by
  rw [List.getElem?_append_left (get_lt h)]; exact h
@[simp] theorem noRefs_ints : ∀ xs : List Int, noRefs (xs.map W.int) = true
  | [] => rfl
  | x :: xs => by simp [noRefs, noRef, noRefs_ints xs]
@[simp] theorem noRefs_tups : ∀ xs : List (List Int), noRefs (xs.map tupI) = true
  | [] => rfl
  | x :: xs => by simp [noRefs, noRef, tupI, noRefs_tups xs]
theorem noRefs_masks : ∀ rs : List (List Int), noRefs (rs.map fun xs => W.int (mask xs)) = true
  | [] => rfl
  | x :: xs => by simp [noRefs, noRef, noRefs_masks xs]
theorem x_make {r : List SV} {G : List Cell} {R : W} {ws : List W} {rss : List (List Int)} {rs : List (List Int)} (hrs : rss.map canon = rs) (hR : RowsR G R ws) (h1 : 1 ≤ ws.length) (h6 : ws.length ≤ 6) (hl : rss.length = ws.length) (hw : ∀ (i : Nat) w xs, ws[i]? = some w → rss[i]? = some xs → RowW G w xs) :
    (∃ k, fb rss = some k ∧ makeG "Layout" m_Layout___init__ [R] ⟨r, G⟩ = some (.error ⟨"BadKey", [("key", .int k)]⟩, ⟨r, G ⟩)) ∨
    (fb rss = none ∧ makeG "Layout" m_Layout___init__ [R] ⟨r, G⟩ = some (.ok (.own (.ins "Layout" [("rows", .lst (rs.map tupI)), ("masks", .lst (rs.map fun xs => W.int (mask xs)))])), ⟨r, G⟩)) := by
  rcases x_init (G := G ++ [.ins "Layout" []]) (n := G.length) (hR.mono app_pre) (by simp) h1 h6 hl (fun i w xs a b => (hw i w xs a b).mono app_pre) with ⟨k, hk, e⟩ | ⟨hk, e⟩
  · refine .inl ⟨k, hk, ?_⟩
    unfold makeG
    simp only []
    rw [e]
    simp [noRefF, noRef]
  · refine .inr ⟨hk, ?_⟩
    unfold makeG
    simp only []
    rw [e]
    have e1 : (List.map (fun xs => tupI (canon xs)) rss) = rs.map tupI := by rw [← hrs, List.map_map]; rfl
    have e2 : (List.map (fun xs => W.int (mask (canon xs))) rss) = rs.map fun xs => W.int (mask xs) := by rw [← hrs, List.map_map]; rfl
    rw [e1, e2]
    have n1 := noRefs_tups rs
    have n2 := noRefs_masks rs
    simp [Cell.noRef, noRefF, noRef, n1, n2]
theorem x_makeOk {r : List SV} {G : List Cell} {R : W} {ws : List W} {rss : List (List Int)} {rs : List (List Int)} (hrs : rss.map canon = rs) (hR : RowsR G R ws) (h1 : 1 ≤ ws.length) (h6 : ws.length ≤ 6) (hl : rss.length = ws.length) (hw : ∀ (i : Nat) w xs, ws[i]? = some w → rss[i]? = some xs → RowW G w xs) (hk : ∀ xs ∈ rss, ∀ k ∈ xs, 0 ≤ k ∧ k < 8) :
    makeG "Layout" m_Layout___init__ [R] ⟨r, G⟩ = some (.ok (.own (.ins "Layout" [("rows", .lst (rs.map tupI)), ("masks", .lst (rs.map fun xs => W.int (mask xs)))])), ⟨r, G⟩) := by
  rcases x_make (r := r) hrs hR h1 h6 hl hw with ⟨k, h, _⟩ | ⟨_, h⟩
  · rw [fb_canon hk] at h; cases h
  · exact h
theorem x_makeL {r : List SV} {G : List Cell} {rss rs : List (List Int)} (hrs : rss.map canon = rs) (h1 : 1 ≤ rss.length) (h6 : rss.length ≤ 6) (hk : ∀ xs ∈ rss, ∀ k ∈ xs, 0 ≤ k ∧ k < 8) :
    makeG "Layout" m_Layout___init__ [.lst (rss.map lstI)] ⟨r, G⟩ = some (.ok (.own (.ins "Layout" [("rows", .lst (rs.map tupI)), ("masks", .lst (rs.map fun xs => W.int (mask xs)))])), ⟨r, G⟩) :=
  x_makeOk (ws := rss.map lstI) hrs (.inl rfl) (by simpa using h1) (by simpa using h6) (by simp) (fun i w xs a b => by
    rw [List.getElem?_map, b] at a
    cases a
    exact .inr (.inl rfl)) hk
end Z
set_option linter.all false
set_option maxRecDepth 100000
namespace Z
open PySem PySem.Spec PyProof.Rows L2
theorem fAdd_ll {a b : List W} (h : a.length + b.length ≤ sz) : fAdd (.lst a) (.lst b) = some (.newl (a ++ b)) := by
  unfold fAdd orf
  rw [show fI (fun i j => i + j) (.lst a) (.lst b) = none from rfl]
  simp only []
  rw [show fAddS (.lst a) (.lst b) = none from rfl]
  simp only []
  rw [show fAddL (.lst a) (.lst b) = some (.newl (a ++ b)) from by unfold fAddL; simp [h]]
theorem canon_filter {n : Nat} (hn : n ≤ 8) (p : Nat → Bool) : canon (((List.range n).filter p).map fun (k : Nat) => (k : Int)) = ((List.range n).filter p).map fun (k : Nat) => (k : Int) := by
  have key : ∀ k : Nat, decide ((k : Int) ∈ ((List.range n).filter p).map fun (k : Nat) => (k : Int)) = (decide (k < n) && p k) := by
    intro k
    rw [Bool.eq_iff_iff]
    simp only [decide_eq_true_eq, List.mem_map, List.mem_filter, List.mem_range, Bool.and_eq_true]
    constructor
    · rintro ⟨j, hj, e⟩
      have : j = k := by omega
      subst this; exact hj
    · intro h; exact ⟨k, h, rfl⟩
  obtain ⟨m, hm⟩ : ∃ m, 8 = n + m := ⟨8 - n, by omega⟩
  have e8 : List.range 8 = List.range n ++ (List.range m).map (n + ·) := by rw [← List.range_add, ← hm]
  unfold canon
  rw [List.filter_congr (q := fun k => decide (k < n) && p k) (fun k _ => key k), e8, List.filter_append, List.map_append]
  have z1 : ((List.range m).map (n + ·)).filter (fun k => decide (k < n) && p k) = [] := by
    rw [List.filter_eq_nil_iff]
    intro k hk
    obtain ⟨j, _, rfl⟩ := List.mem_map.mp hk
    simp
    omega
  rw [z1, List.map_nil, List.append_nil]
  congr 1
  apply List.filter_congr
  intro k hk
  simp [List.mem_range.mp hk]
theorem x_row (kind copy many number : Int) (c0 : 0 ≤ copy) (m1 : 1 ≤ many) (m6 : many ≤ 6) (G : List Cell) : ∃ xs : List Int, m__law_row [.int kind, .int copy, .int many, .int number] G = some (.ok (.own (.lst (xs.map W.int))), G) ∧ canon xs = xs := by
  unfold m__law_row
  rw [fnM_o]
  have h1 : 1 ≤ sz := by decide
  have h2 : 2 ≤ sz := by decide
  have c8 : CDivW number 8 := by unfold CDivW; constructor <;> decide
  have hfin : ∀ (ms : List Int) (v5 : SV), lcL [6] (tgN 6) (mB (mBin (fIn false) (mName 6) (mName 4))) (mName 6) ⟨rngW 0 8, none⟩ (rngW 0 8) [] ⟨[.val (.int kind), .val (.int copy), .val (.int many), .val (.int number), .own (.lst (ms.map W.int)), v5, .non], G⟩ =
      some (.ok (.own (.lst ((canon ms).map W.int))), ⟨[.val (.int kind), .val (.int copy), .val (.int many), .val (.int number), .own (.lst (ms.map W.int)), v5, .non], G⟩) := by
    intro ms v5
    rw [rng_map, lc_pure (by exact trivial) (fun (k : Nat) => decide ((0 : Int) + (k : Int) ∈ ms)) (fun (k : Nat) => W.int ((0 : Int) + (k : Int)))]
    · rw [canon_e]; simp
    · intro k _
      refine ⟨⟨[.val (.int kind), .val (.int copy), .val (.int many), .val (.int number), .own (.lst (ms.map W.int)), v5, .val (.int ((0 : Int) + (k : Int)))], G⟩, ?_, ?_, ?_⟩
      · simp [fIn_lI]
      · intro _
        exact ⟨⟨[.val (.int kind), .val (.int copy), .val (.int many), .val (.int number), .own (.lst (ms.map W.int)), v5, .val (.int ((0 : Int) + (k : Int)))], G⟩, by simp, by simp⟩
      · intro _; simp
    · simp [sz]
  have hbits : ∀ (n : Nat), n ≤ 8 → lcL [6] (tgN 6) (mB (mBin fEqD (mBin fMod (mCB fInt1 (mCons (mBin fShr (mName 3) (mName 6)) mNil)) (mC (.int 2))) (mC (.int 1)))) (mName 6) ⟨rngW 0 n, none⟩ (rngW 0 n) [] ⟨[.val (.int kind), .val (.int copy), .val (.int many), .val (.int number), .non, .val (.int n), .non], G⟩ =
      some (.ok (.own (.lst ((((List.range n).filter fun (k : Nat) => decide (number / 2 ^ k % 2 = 1)).map fun (k : Nat) => (k : Int)).map W.int))), ⟨[.val (.int kind), .val (.int copy), .val (.int many), .val (.int number), .non, .val (.int n), .non], G⟩) := by
    intro n hn
    rw [rng_map, lc_pure (by exact trivial) (fun (k : Nat) => decide (number / 2 ^ k % 2 = 1)) (fun (k : Nat) => W.int ((0 : Int) + (k : Int)))]
    · simp
    · intro k _
      refine ⟨⟨[.val (.int kind), .val (.int copy), .val (.int many), .val (.int number), .non, .val (.int n), .val (.int ((0 : Int) + (k : Int)))], G⟩, ?_, ?_, ?_⟩
      · simp [fEqD_i]
      · intro _
        exact ⟨⟨[.val (.int kind), .val (.int copy), .val (.int many), .val (.int number), .non, .val (.int n), .val (.int ((0 : Int) + (k : Int)))], G⟩, by simp, by simp⟩
      · intro _; simp
    · have : (8 : Nat) ≤ sz := by decide
      simp; omega
  have b8 := hbits 8 (by omega)
  have b3 := hbits 3 (by omega)
  by_cases k0 : kind = 0
  · subst k0
    refine ⟨_, ?_, canon_filter (n := 8) (by omega) fun (k : Nat) => decide (number / 2 ^ k % 2 = 1)⟩
    simp at b8
    simp [b__law_row, fEqD_i, b8]
  by_cases k5 : kind = 5
  · subst k5
    refine ⟨_, ?_, canon_filter (n := 3) (by omega) fun (k : Nat) => decide (number / 2 ^ k % 2 = 1)⟩
    simp at b3
    simp [b__law_row, fEqD_i, b3]
  suffices h : ∃ ms : List Int, outF (b__law_row ⟨[.val (.int kind), .val (.int copy), .val (.int many), .val (.int number), .non, .non, .non], G⟩) = some (.ok (.own (.lst ((canon ms).map W.int))), G) by
    obtain ⟨ms, h⟩ := h
    exact ⟨canon ms, h, canon_idem ms⟩
  have ml : ∀ (ms : List Int) (q : List W) (k : Int), ms.length ≤ 8 → q = ms.map W.int → fAdd (.lst q) (.lst [.int k]) = some (.newl ((ms ++ [k]).map W.int)) := fun ms q k hl hq => by
    subst hq
    rw [fAdd_ll (by show _ ≤ 16777216; simp; omega)]
    simp
  have g : ∀ (ms : List Int), ms.length ≤ 8 → ∃ ms2 : List Int, (if kind = 3 ∨ number / 8 % 4 = 0 then fAdd (.lst (ms.map W.int)) (.lst [.int (number % 8)]) else some (.newl (ms.map W.int))) = some (.newl (ms2.map W.int)) := fun ms hl => by
    split
    · exact ⟨_, ml ms _ _ hl rfl⟩
    · exact ⟨ms, rfl⟩
  have go : ∀ (ms : List Int) (v5 : SV), ms.length ≤ 8 → ∃ ms2 : List Int, outF ((mSeq (mIf (mOr (mB (mBin fEqD (mName 0) (mC (.int 3)))) (mB (mBin fEqD (mBin fMod (mCB fInt1 (mCons (mBin fDiv (mName 3) (mC (.int 8))) mNil)) (mC (.int 4))) (mC (.int 0))))) (mAsg 4 (mBin fAdd (mName 4) (mLst (mCons (mBin fMod (mCB fInt1 (mCons (mName 3) mNil)) (mC (.int 8))) mNil)))) mNext) (mRet (mLc [6] (mRng1 (mCons (mC (.int 8)) mNil)) (tgN 6) (mB (mBin (fIn false) (mName 6) (mName 4))) (mName 6)))) ⟨[.val (.int kind), .val (.int copy), .val (.int many), .val (.int number), .own (.lst (ms.map W.int)), v5, .non], G⟩) = some (.ok (.own (.lst ((canon ms2).map W.int))), G) := by
    intro ms v5 hl
    have hm := ml ms _ (number % 8) hl rfl
    by_cases k3 : kind = 3
    · refine ⟨ms ++ [number % 8], ?_⟩
      have hf := hfin (ms ++ [number % 8]) v5
      generalize ms ++ [number % 8] = ms3 at hm hf
      simp [fEqD_i, k3, h1, hm]
      rw [← k3, hf]
      simp
    · by_cases k4 : number / 8 % 4 = 0
      · refine ⟨ms ++ [number % 8], ?_⟩
        have hf := hfin (ms ++ [number % 8]) v5
        generalize ms ++ [number % 8] = ms3 at hm hf
        simp [fEqD_i, k3, k4, c8, h1, hm, hf]
      · exact ⟨ms, by simp [fEqD_i, k3, k4, c8, h1, hfin]⟩
  by_cases k1 : kind = 1
  · obtain ⟨ms2, h⟩ := go [copy, copy + 1] .non (by simp)
    refine ⟨ms2, ?_⟩
    rw [← h]
    simp [b__law_row, fEqD_i, k1, c8, h1, h2]
  by_cases k2 : kind = 2
  · by_cases q : copy = 0
    · have hr : Rl 0 (many - 1) := rl_le (by omega) (by omega) (by omega) (by omega)
      obtain ⟨ms2, h⟩ := go ((List.range (many - 1).toNat).map fun (k : Nat) => (0 : Int) + (k : Int)) .non (by simp; omega)
      refine ⟨ms2, ?_⟩
      rw [← h]
      have e : rngW 0 (many - 1).toNat = ((List.range (many - 1).toNat).map fun (k : Nat) => (0 : Int) + (k : Int)).map W.int := by rw [List.map_map]; rfl
      rw [← e]
      simp [b__law_row, fEqD_i, k2, c8, h1, h2, q, hr]
    · obtain ⟨ms2, h⟩ := go [copy - 1] .non (by simp)
      refine ⟨ms2, ?_⟩
      rw [← h]
      simp [b__law_row, fEqD_i, k2, c8, h1, h2, q]
  by_cases k4 : kind = 4
  · have hm : (0 : Int) < many := by omega
    obtain ⟨ms2, h⟩ := go [copy, (copy + 1) % many] .non (by simp)
    refine ⟨ms2, ?_⟩
    rw [← h]
    simp [b__law_row, fEqD_i, k4, c8, h1, h2, hm]
  · obtain ⟨ms2, h⟩ := go [number / 8 % 8] .non (by simp)
    refine ⟨ms2, ?_⟩
    rw [← h]
    simp [b__law_row, fEqD_i, k0, k1, k2, k4, k5, c8, h1, h2]
end Z
set_option linter.all false
set_option maxRecDepth 100000
namespace Z
open PySem PySem.Spec PyProof.Rows L2
def r256 : List Int := List.replicate 6 256
def lims8 (k : Int) : List Int := [6, k] ++ r256
theorem lims256 : fMul (.lst [.int 256]) (.int 6) = some (.newl (r256.map W.int)) := rfl
theorem fAdd_lims {k : Int} : fAdd (.lst [.int 6, .int k]) (.lst (r256.map W.int)) = some (.newl ((lims8 k).map W.int)) := rfl
theorem x_rows (cell least top : Int) (l1 : 1 ≤ least) (lt : least ≤ top) (t6 : top ≤ 6) (G : List Cell) : ∃ rs : List (List Int), m__law_rows [.int cell, .int least, .int top] G = some (.ok (.own (.lst (rs.map lstI))), G) ∧ least ≤ rs.length ∧ rs.length ≤ top ∧ ∀ xs ∈ rs, canon xs = xs := by
  unfold m__law_rows
  rw [fnM_o]
  have h1 : 1 ≤ sz := by decide
  have h2 : 2 ≤ sz := by decide
  obtain ⟨xs, hx, hlen, hlim⟩ := x_numbers cell 1 (lims8 (1 + top - least)) (by
    intro l hl
    simp [lims8, r256] at hl
    rcases hl with rfl | rfl | rfl
    · decide
    · refine ⟨by omega, ?_⟩
      exact Nat.lt_of_le_of_lt (Nat.log2_le_self _) (by omega)
    · decide) (by simp [lims8, r256]) G
  have hlen8 : xs.length = 8 := by rw [hlen]; simp [lims8, r256]
  have a0 : atI (xs.map W.int) 0 = some (.int (xs[0]'(by omega))) := atI_mapI (k := 0) (by omega)
  have a1 : atI (xs.map W.int) 1 = some (.int (xs[1]'(by omega))) := atI_mapI (k := 1) (by omega)
  have b1 := hlim 1 _ (1 + top - least) (List.getElem?_eq_getElem (by omega)) rfl
  generalize xs[0]'(by omega) = kind at a0
  generalize xs[1]'(by omega) = more at a1 b1
  obtain ⟨n, hn⟩ := Int.eq_ofNat_of_zero_le (a := least + more) (by omega)
  have hR : Rk (n : Int) := rk_nat (by omega)
  simp [b__law_rows, h1, h2, lims256, fAdd_lims, hx, a1, hn, hR]
  generalize hF : lcL _ _ _ _ _ _ _ _ = F
  obtain ⟨acc, s', rfl, ⟨rs, rfl, e1, e2, rfl⟩, _⟩ := lc_at hF (fun i acc s => ∃ rs : List (List Int), acc = rs.map lstI ∧ rs.length = i ∧ (∀ xs ∈ rs, canon xs = xs) ∧ s = ⟨[.val (.int cell), .val (.int least), .val (.int top), .own (.lst (xs.map W.int)), .val (.int n), .non], G⟩) (fun _ _ _ _ => by trivial) ⟨[], rfl, rfl, by simp, rfl⟩ (by
      have : (1000 : Nat) ≤ sz := by decide
      simp [rngW]; omega) (by
    rintro i hi acc s ⟨rs, rfl, e1, e2, rfl⟩
    simp [rngW] at hi
    have ai : atI (xs.map W.int) (2 + (i : Int)) = some (.int (xs[2 + i]'(by omega))) := by
      have := atI_mapI (xs := xs) (k := 2 + i) (by omega)
      simpa using this
    obtain ⟨ys, hy, hc⟩ := x_row kind i n (xs[2 + i]'(by omega)) (by omega) (by omega) (by omega) G
    refine ⟨true, ⟨[.val (.int cell), .val (.int least), .val (.int top), .own (.lst (xs.map W.int)), .val (.int n), .val (.int i)], G⟩, by simp [rngW], fun _ => ⟨lstI ys, ⟨[.val (.int cell), .val (.int least), .val (.int top), .own (.lst (xs.map W.int)), .val (.int n), .val (.int i)], G⟩, ?_, rs ++ [ys], by simp, by simp [e1], ?_, by simp⟩, fun h => by cases h⟩
    · simp [a0, ai, hy]
      rfl
    · intro zs hz
      rcases List.mem_append.mp hz with hz | hz
      · exact e2 zs hz
      · simp at hz; subst hz; exact hc)
  simp [rngW] at e1
  simp
  exact ⟨rs, rfl, by omega, by omega, e2⟩
theorem canon_k8 {rs : List (List Int)} (h : ∀ xs ∈ rs, canon xs = xs) : ∀ xs ∈ rs, ∀ k ∈ xs, 0 ≤ k ∧ k < 8 := fun x hx k hk => by
  rw [← h x hx] at hk
  exact ⟨(canon_mem hk).1, (canon_mem hk).2.1⟩
theorem canon_map {rs : List (List Int)} (h : ∀ xs ∈ rs, canon xs = xs) : rs.map canon = rs := by
  rw [List.map_congr_left (fun xs hx => h xs hx), List.map_id']
def nmask (f : Nat → Bool) : Nat := ((List.range 8).map fun k => if f k then 2 ^ k else 0).sum
theorem sum_filter (p : Nat → Bool) (g : Nat → Int) : ∀ l : List Nat, ((l.filter p).map g).sum = (l.map fun k => if p k then g k else 0).sum
  | [] => rfl
  | x :: l => by
    simp only [List.filter_cons, List.map_cons, List.sum_cons]
    cases p x with
    | true => simp [sum_filter p g l]
    | false => simp [sum_filter p g l]
theorem mask_nat {xs : List Int} (h : canon xs = xs) : mask xs = (nmask fun k => decide ((k : Int) ∈ xs) : Nat) := by
  have e : mask (canon xs) = (nmask fun k => decide ((k : Int) ∈ xs) : Nat) := by
    unfold mask canon nmask
    rw [List.map_map, sum_filter]
    have r8 : List.range 8 = [0, 1, 2, 3, 4, 5, 6, 7] := rfl
    rw [r8]
    simp only [List.map_cons, List.map_nil, List.sum_cons, List.sum_nil, Function.comp_apply, Int.toNat_natCast]
    have pw : ∀ b : Bool, ∀ n : Nat, (if b = true then (2 : Int) ^ n else 0) = ((if b = true then 2 ^ n else 0 : Nat) : Int) := fun b n => by cases b <;> simp
    simp only [pw]
    simp only [Int.natCast_add, Int.natCast_zero]
  rw [← e, h]
theorem nmask_bit8 : ∀ b0 b1 b2 b3 b4 b5 b6 b7 : Bool, ∀ j, j < 8 → ((if b0 then 1 else 0) + ((if b1 then 2 else 0) + ((if b2 then 4 else 0) + ((if b3 then 8 else 0) + ((if b4 then 16 else 0) + ((if b5 then 32 else 0) + ((if b6 then 64 else 0) + ((if b7 then 128 else 0) + 0)))))))).testBit j = [b0, b1, b2, b3, b4, b5, b6, b7].getD j false := by decide +kernel
theorem nmask_bit (f : Nat → Bool) (j : Nat) (h : j < 8) : (nmask f).testBit j = f j := by
  have := nmask_bit8 (f 0) (f 1) (f 2) (f 3) (f 4) (f 5) (f 6) (f 7) j h
  unfold nmask
  rw [show List.range 8 = [0, 1, 2, 3, 4, 5, 6, 7] from rfl]
  simp only [List.map_cons, List.map_nil, List.sum_cons, List.sum_nil]
  refine Eq.trans this ?_
  have : j = 0 ∨ j = 1 ∨ j = 2 ∨ j = 3 ∨ j = 4 ∨ j = 5 ∨ j = 6 ∨ j = 7 := by omega
  rcases this with rfl | rfl | rfl | rfl | rfl | rfl | rfl | rfl <;> rfl
theorem nmask_lt (f : Nat → Bool) : nmask f < 2 ^ 8 := by
  unfold nmask
  rw [show List.range 8 = [0, 1, 2, 3, 4, 5, 6, 7] from rfl]
  simp only [List.map_cons, List.map_nil, List.sum_cons, List.sum_nil]
  repeat' split
  all_goals decide
def common (xs ys : List Int) : Bool := xs.any fun k => decide (k ∈ ys)
def lineB (rs : List (List Int)) (s t : Nat) : Bool := decide (s ≠ t) && common (rs.getD s []) (rs.getD t [])
def linesFrom (rs : List (List Int)) (s : Nat) : List (List Int) := ((List.range rs.length).filter fun t => lineB rs s t).map fun (t : Nat) => [(s : Int), (t : Int)]
def linesOf (rs : List (List Int)) : List (List Int) := (List.range rs.length).flatMap (linesFrom rs)
end Z
set_option linter.all false
set_option maxRecDepth 100000
namespace Z
open PySem PySem.Spec PyProof.Rows L2
def sharedOf (xs ys : List Int) : List Int := xs.filter fun k => decide (k ∈ ys)
theorem shared_nil {xs ys : List Int} : sharedOf xs ys = [] ↔ common xs ys = false := by
  unfold sharedOf common
  rw [List.filter_eq_nil_iff, List.any_eq_false]
structure RowE (e : List Int → W) : Prop where
  walk : ∀ s xs, walkOf s (e xs) = some ⟨xs.map W.int, none⟩
  inn : ∀ neg k xs, fIn neg (.int k) (e xs) = some (.imm (.bl (decide (k ∈ xs) != neg)))
  look : ∀ r G xs, look (.val (e xs)) ⟨r, G⟩ = some (.ok (e xs), ⟨r, G⟩)
  tup : ∀ xs, fTuple [e xs] = some (.imm (tupI xs)) ∨ fTuple [e xs] = some (.newt (xs.map W.int))
  lst : ∀ xs, fList [e xs] = some (.newl (xs.map W.int))
theorem rowE_lst : RowE lstI := ⟨fun _ _ => rfl, fun neg k xs => fIn_lI neg k xs, fun _ _ _ => rfl, fun xs => .inr rfl, fun _ => rfl⟩
theorem x_law_linesR {e : List Int → W} (he : RowE e) (rs : List (List Int)) (hl : rs.length ≤ 1000) (h8 : ∀ xs ∈ rs, xs.length ≤ 8) (G : List Cell) {R : W} (hR0 : ∀ r, look (.val R) ⟨r, G⟩ = some (.ok (.lst (rs.map e)), ⟨r, G⟩)) : m__law_lines [R] G = some (.ok (.own (.lst ((linesOf rs).map tupI))), G) := by
  unfold m__law_lines
  rw [fnM_o]
  have hR : Rk (rs.length : Int) := rk_nat (by omega)
  have z2 : 2 ≤ sz := by decide
  simp [b__law_lines, hR, hR0]
  generalize hF : forL _ _ _ _ = F
  obtain ⟨s', rfl, v2, v3, rfl⟩ := forL_at hF (fun i s => ∃ v2 v3, s = ⟨[.val R, .own (.lst (((List.range i).flatMap (linesFrom rs)).map tupI)), v2, v3, .non], G⟩) ⟨.non, .non, by simp⟩ (by
    rintro i hi s ⟨v2, v3, rfl⟩
    simp [rngW] at hi
    have hA : ((List.range i).flatMap (linesFrom rs)).length ≤ i * rs.length := by
      rw [List.length_flatMap]
      have : ∀ l : List Nat, (l.map fun s => (linesFrom rs s).length).sum ≤ l.length * rs.length := by
        intro l
        induction l with
        | nil => simp
        | cons x l ih =>
          have : (linesFrom rs x).length ≤ rs.length := by
            unfold linesFrom
            rw [List.length_map]
            exact Nat.le_trans (List.length_filter_le _ _) (by simp)
          simp only [List.map_cons, List.sum_cons, List.length_cons]
          rw [Nat.succ_mul]
          omega
      have h := this (List.range i)
      simpa using h
    have hA2 : i * rs.length ≤ 1000 * 1000 := Nat.mul_le_mul (by omega) hl
    have e1 : (List.range (i + 1)).flatMap (linesFrom rs) = (List.range i).flatMap (linesFrom rs) ++ linesFrom rs i := by
      rw [List.range_succ, List.flatMap_append]; simp
    rw [e1]
    generalize (List.range i).flatMap (linesFrom rs) = A at hA
    simp [rngW, hR, hR0]
    generalize hF2 : forL _ _ _ _ = F2
    obtain ⟨s', rfl, v3', rfl⟩ := forL_at hF2 (fun j s => ∃ v3, s = ⟨[.val R, .own (.lst ((A ++ ((List.range j).filter fun t => lineB rs i t).map fun (t : Nat) => [(i : Int), (t : Int)]).map tupI)), .val (.int i), v3, .non], G⟩) ⟨v3, by simp⟩ (by
      rintro j hj s ⟨v3, rfl⟩
      simp [rngW] at hj
      have ei : atI (rs.map e) (i : Int) = some (e rs[i]) := atI_nat (by simp [hi])
      have ej : atI (rs.map e) (j : Int) = some (e rs[j]) := atI_nat (by simp [hj])
      have e2 : ∀ k, fIn false (.int k) (e rs[j]) = some (.imm (.bl (decide (k ∈ rs[j]) != false))) := fun k => he.inn false k _
      have hB : ((List.range j).filter fun t => lineB rs i t).length ≤ j := Nat.le_trans (List.length_filter_le _ _) (by simp)
      have e3 : ((List.range (j + 1)).filter fun t => lineB rs i t) = ((List.range j).filter fun t => lineB rs i t) ++ (if lineB rs i j then [j] else []) := by
        rw [List.range_succ, List.filter_append]
        congr 1
        cases hz : lineB rs i j <;> simp [hz]
      rw [e3]
      generalize hB2 : ((List.range j).filter fun t => lineB rs i t) = B at hB
      generalize hC : A ++ (B.map fun (t : Nat) => [(i : Int), (t : Int)]) = C
      have hlC : C.length < sz := by rw [← hC]; show _ < 16777216; simp; omega
      have hlc : lcL [4] (tgN 4) (mB (mBin (fIn false) (mName 4) (mBin fIx (mName 0) (mName 3)))) (mName 4) ⟨rs[i].map W.int, none⟩ (rs[i].map W.int) [] ⟨[.val R, .own (.lst (C.map tupI)), .val (.int i), .val (.int j), .non], G⟩ =
          some (.ok (.own (.lst ((sharedOf rs[i] rs[j]).map W.int))), ⟨[.val R, .own (.lst (C.map tupI)), .val (.int i), .val (.int j), .non], G⟩) := by
        rw [lc_pure (by exact trivial) (fun k => decide (k ∈ rs[j])) W.int]
        · simp [sharedOf]
        · intro k _
          exact ⟨⟨[.val R, .own (.lst (C.map tupI)), .val (.int i), .val (.int j), .val (.int k)], G⟩, by simp [ej, he.look, e2, hR0], fun _ => ⟨⟨[.val R, .own (.lst (C.map tupI)), .val (.int i), .val (.int j), .val (.int k)], G⟩, by simp, by simp⟩, fun _ => by simp⟩
        · have := h8 _ (List.getElem_mem hi)
          show _ ≤ 16777216
          simp; omega
      have hne : fNeD (.lst ((sharedOf rs[i] rs[j]).map W.int)) (.lst []) = some (.imm (.bl (decide (sharedOf rs[i] rs[j] ≠ [])))) := fNeD_emb (emb_lst emb_int) (by decide) (sharedOf rs[i] rs[j]) []
      have hb : lineB rs i j = (decide (i ≠ j) && common rs[i] rs[j]) := by simp [lineB, hi, hj]
      have hlm : (C.map tupI).length < sz := by simpa using hlC
      by_cases hij : i = j
      · have hb' : lineB rs i j = false := by rw [hb]; simp [hij]
        refine ⟨⟨[.val R, .own (.lst (C.map tupI)), .val (.int i), .val (.int j), .non], G⟩, by simp [rngW, fNeD_i, hij], .val (.int j), ?_⟩
        rw [hb']
        simp only [Bool.false_eq_true, if_false, List.append_nil]
        rw [hC]
      · have hij' : ¬ (i : Int) = j := by omega
        cases hcm : common rs[i] rs[j] with
        | false =>
          have hb' : lineB rs i j = false := by rw [hb, hcm]; simp
          have hs := shared_nil.mpr hcm
          have hne0 : fNeD (.lst []) (.lst []) = some (.imm (.bl false)) := rfl
          refine ⟨⟨[.val R, .own (.lst (C.map tupI)), .val (.int i), .val (.int j), .non], G⟩, by simp [rngW, fNeD_i, hij', ei, hR0, he.walk, he.look, hlc, hne, hs, hne0], .val (.int j), ?_⟩
          rw [hb']
          simp only [Bool.false_eq_true, if_false, List.append_nil]
          rw [hC]
        | true =>
          have hb' : lineB rs i j = true := by rw [hb, hcm]; simp [hij]
          have hs : ¬ sharedOf rs[i] rs[j] = [] := fun z => by rw [shared_nil.mp z] at hcm; cases hcm
          refine ⟨⟨[.val R, .own (.lst (C.map tupI ++ [.tup [.int i, .int j]])), .val (.int i), .val (.int j), .non], G⟩, by simp [rngW, fNeD_i, hij', ei, hR0, he.walk, he.look, hlc, hne, hs, z2, fAppend, hlC], .val (.int j), ?_⟩
          rw [hb']
          simp only [if_true, List.map_append]
          rw [← hC]
          simp [tupI])
    refine ⟨_, rfl, .val (.int i), v3', ?_⟩
    simp [rngW, linesFrom])
  simp [rngW, linesOf]
theorem x_law_linesE {e : List Int → W} (he : RowE e) (rs : List (List Int)) (hl : rs.length ≤ 1000) (h8 : ∀ xs ∈ rs, xs.length ≤ 8) (G : List Cell) : m__law_lines [.lst (rs.map e)] G = some (.ok (.own (.lst ((linesOf rs).map tupI))), G) := x_law_linesR he rs hl h8 G fun _ => rfl
theorem x_law_lines (rs : List (List Int)) (hl : rs.length ≤ 1000) (h8 : ∀ xs ∈ rs, xs.length ≤ 8) (G : List Cell) : m__law_lines [.lst (rs.map lstI)] G = some (.ok (.own (.lst ((linesOf rs).map tupI))), G) := x_law_linesE rowE_lst rs hl h8 G
end Z
set_option linter.all false
set_option maxRecDepth 100000
set_option maxHeartbeats 1000000
namespace Z
open PySem PySem.Spec PyProof.Rows L2
theorem bAnd_n (a b : Nat) : Builtin.bitAnd (a : Int) (b : Int) = ((a &&& b : Nat) : Int) := by
  unfold Builtin.bitAnd
  have h1 : decide ((0 : Int) ≤ (a : Int)) = true := by simp
  have h2 : decide ((0 : Int) ≤ (b : Int)) = true := by simp
  rw [h1, h2]
  simp
theorem and_m2 (a b : Nat) : (a &&& b) % 2 = (a % 2) &&& (b % 2) := by
  have := Nat.and_mod_two_pow (a := a) (b := b) (n := 1)
  simpa using this
theorem sub_and_bit : ∀ (e a b : Nat), (a - (a &&& b)).testBit e = (a.testBit e && !b.testBit e)
  | 0, a, b => by
    have h : (a &&& b) ≤ a := Nat.and_le_left
    have h2 := and_m2 a b
    simp only [Nat.testBit_zero]
    rcases Nat.mod_two_eq_zero_or_one a with ha | ha <;> rcases Nat.mod_two_eq_zero_or_one b with hb | hb <;> rw [ha, hb] at h2 <;> rw [Bool.eq_iff_iff] <;> simp only [ha, hb, decide_eq_true_eq, Bool.and_eq_true, Bool.not_eq_true', decide_eq_false_iff_not]
    · have q : (a &&& b) % 2 = 0 := h2
      generalize a &&& b = g at *
      simp
      omega
    · have q : (a &&& b) % 2 = 0 := h2
      generalize a &&& b = g at *
      simp
      omega
    · have q : (a &&& b) % 2 = 0 := h2
      generalize a &&& b = g at *
      simp
      omega
    · have q : (a &&& b) % 2 = 1 := h2
      generalize a &&& b = g at *
      simp
      omega
  | e + 1, a, b => by
    have h : (a &&& b) ≤ a := Nat.and_le_left
    have hd : (a &&& b) / 2 = a / 2 &&& b / 2 := Nat.and_div_two
    have h2 : (a &&& b) % 2 ≤ a % 2 := by
      rw [and_m2]
      exact Nat.and_le_left
    have : (a - (a &&& b)) / 2 = a / 2 - (a / 2 &&& b / 2) := by omega
    rw [Nat.testBit_succ, Nat.testBit_succ, Nat.testBit_succ, this, sub_and_bit e (a / 2) (b / 2)]
theorem bAndNot_n (a b : Nat) : Builtin.bitAnd (a : Int) (Builtin.bitNot (b : Int)) = ((a - (a &&& b) : Nat) : Int) := by
  have h : (a &&& b) ≤ a := Nat.and_le_left
  unfold Builtin.bitAnd Builtin.bitNot
  have h1 : decide ((0 : Int) ≤ (a : Int)) = true := by simp
  have h2 : decide ((0 : Int) ≤ -(b : Int) - 1) = false := by simp; omega
  rw [h1, h2]
  have h3 : (-(-(b : Int) - 1) - 1).toNat = b := by omega
  simp only [h3, Int.toNat_natCast]
  omega
theorem bOr_n (a b : Nat) : Builtin.bitOr (a : Int) (b : Int) = ((a ||| b : Nat) : Int) := by
  unfold Builtin.bitOr Builtin.bitAnd Builtin.bitNot
  have h1 : decide ((0 : Int) ≤ -(a : Int) - 1) = false := by simp; omega
  have h2 : decide ((0 : Int) ≤ -(b : Int) - 1) = false := by simp; omega
  rw [h1, h2]
  have h3 : (-(-(a : Int) - 1) - 1).toNat = a := by omega
  have h4 : (-(-(b : Int) - 1) - 1).toNat = b := by omega
  simp only [h3, h4]
  omega
theorem and_one_bit (a e : Nat) : Builtin.bitAnd ((a : Int) / 2 ^ e) 1 = if a.testBit e = true then 1 else 0 := by
  have h : ((a : Int) / 2 ^ e) = ((a / 2 ^ e : Nat) : Int) := by
    push_cast
    rfl
  rw [h, show (1 : Int) = ((1 : Nat) : Int) from rfl, bAnd_n, Nat.and_one_is_mod]
  have : a.testBit e = decide (a / 2 ^ e % 2 = 1) := by
    rw [Nat.testBit_eq_decide_div_mod_eq]
  rw [this]
  rcases Nat.mod_two_eq_zero_or_one (a / 2 ^ e) with q | q <;> simp [q]
end Z
set_option linter.all false
set_option maxRecDepth 100000
set_option maxHeartbeats 2000000
namespace Z
open PySem PySem.Spec PyProof.Rows L2
def rowB (rs : List (List Int)) (c : Nat) : Nat → Bool := fun k => decide ((k : Int) ∈ rs.getD c [])
def unB (rs : List (List Int)) (l : List Nat) : Nat → Bool := fun k => l.any fun c => rowB rs c k
def keyB (rs : List (List Int)) (a b : Nat) (l : List Nat) : Nat → Bool := fun k => (rowB rs a k && rowB rs b k) && !unB rs l k
def fk (f : Nat → Bool) : List Nat := (List.range 8).filter f
def low (f : Nat → Bool) : Nat := (fk f).headD 0
theorem nm_hi (f : Nat → Bool) {j : Nat} (h : ¬ j < 8) : (nmask f).testBit j = false := Nat.testBit_lt_two_pow (Nat.lt_of_lt_of_le (nmask_lt f) (Nat.pow_le_pow_right (by omega) (by omega)))
theorem nm_eq {f : Nat → Bool} {n : Nat} (h : ∀ j, n.testBit j = (decide (j < 8) && f j)) : n = nmask f := by
  apply Nat.eq_of_testBit_eq
  intro j
  rw [h]
  by_cases q : j < 8
  · rw [nmask_bit f j q]; simp [q]
  · rw [nm_hi f q]; simp [q]
theorem nm_and (f g : Nat → Bool) : nmask f &&& nmask g = nmask fun k => f k && g k := nm_eq fun j => by
  rw [Nat.testBit_and]
  by_cases q : j < 8
  · rw [nmask_bit f j q, nmask_bit g j q]; simp [q]
  · rw [nm_hi f q]; simp [q]
theorem nm_or (f g : Nat → Bool) : nmask f ||| nmask g = nmask fun k => f k || g k := nm_eq fun j => by
  rw [Nat.testBit_or]
  by_cases q : j < 8
  · rw [nmask_bit f j q, nmask_bit g j q]; simp [q]
  · rw [nm_hi f q, nm_hi g q]; simp [q]
theorem nm_not (f g : Nat → Bool) : nmask f - (nmask f &&& nmask g) = nmask fun k => f k && !g k := nm_eq fun j => by
  rw [sub_and_bit]
  by_cases q : j < 8
  · rw [nmask_bit f j q, nmask_bit g j q]; simp [q]
  · rw [nm_hi f q]; simp [q]
theorem fk_nil {f : Nat → Bool} : fk f = [] ↔ ∀ j, j < 8 → f j = false := by
  unfold fk
  rw [List.filter_eq_nil_iff]
  simp
theorem nm_zero {f : Nat → Bool} : nmask f = 0 ↔ fk f = [] := by
  rw [fk_nil]
  constructor
  · intro h j hj
    rw [← nmask_bit f j hj, h, Nat.zero_testBit]
  · intro h
    refine (nm_eq (f := f) (n := 0) fun j => ?_).symm
    rw [Nat.zero_testBit]
    by_cases q : j < 8
    · simp [q, h j q]
    · simp [q]
def nmW (f : Nat → Bool) : W := .int (nmask f : Nat)
section
variable {f g : Nat → Bool} {r : List SV} {G : List Cell} {s : S}
theorem fBAnd_nm : fBAnd (nmW f) (nmW g) = some (.imm (nmW fun k => f k && g k)) := by
  show some (OR.imm (.int (Builtin.bitAnd (nmask f : Nat) (nmask g : Nat)))) = _
  rw [bAnd_n, nm_and]
  rfl
theorem fInv_nm : fInv (nmW g) = some (.imm (.int (Builtin.bitNot (nmask g : Nat)))) := rfl
theorem fBAndN_nm : fBAnd (nmW f) (.int (Builtin.bitNot (nmask g : Nat))) = some (.imm (nmW fun k => f k && !g k)) := by
  show some (OR.imm (.int (Builtin.bitAnd (nmask f : Nat) (Builtin.bitNot (nmask g : Nat))))) = _
  rw [bAndNot_n, nm_not]
  rfl
theorem fOr_nm : fOrA1 (nmW f) (nmW g) = some (.imm (nmW fun k => f k || g k)) := by
  show some (OR.imm (.int (Builtin.bitOr (nmask f : Nat) (nmask g : Nat)))) = _
  rw [bOr_n, nm_or]
  rfl
theorem fEq0_nm : fEqD (nmW f) (.int 0) = some (.imm (.bl (decide (fk f = [])))) := by
  have : ((nmask f : Nat) : Int) = 0 ↔ fk f = [] := by rw [← nm_zero]; omega
  unfold nmW
  rw [fEqD_i]
  simp only [this]
theorem fNe0_nm : fNeD (nmW f) (.int 0) = some (.imm (.bl (!decide (fk f = [])))) := by
  have : ((nmask f : Nat) : Int) = 0 ↔ fk f = [] := by rw [← nm_zero]; omega
  unfold nmW
  rw [fNeD_i]
  by_cases h : fk f = []
  · have := this.mpr h
    simp [this, h]
  · have : ¬ ((nmask f : Nat) : Int) = 0 := fun z => h (this.mp z)
    rw [decide_eq_true this, decide_eq_false h]
    rfl
@[simp] theorem look_nm : look (.val (nmW f)) ⟨r, G⟩ = some (.ok (nmW f), ⟨r, G⟩) := rfl
@[simp] theorem deref_nm : derefW s (nmW f) = some (nmW f) := rfl
end
theorem fk_mem {f : Nat → Bool} {k : Nat} : k ∈ fk f ↔ k < 8 ∧ f k = true := by
  unfold fk
  simp
theorem low_ok {f : Nat → Bool} (h : fk f ≠ []) : low f < 8 ∧ f (low f) = true ∧ ∀ j, j < low f → f j = false := by
  unfold low
  cases e : fk f with
  | nil => exact absurd e h
  | cons k l =>
    have hk : k ∈ fk f := by rw [e]; exact List.mem_cons_self
    obtain ⟨h1, h2⟩ := fk_mem.mp hk
    refine ⟨h1, h2, fun j hj => ?_⟩
    show f j = false
    have hj : j < k := hj
    cases q : f j with
    | false => rfl
    | true =>
      have : j ∈ fk f := fk_mem.mpr ⟨by omega, q⟩
      rw [e] at this
      have srt : (k :: l).Pairwise (· < ·) := by
        rw [← e]
        exact List.Pairwise.filter _ List.pairwise_lt_range
      rcases List.mem_cons.mp this with z | z
      · omega
      · have := (List.pairwise_cons.mp srt).1 j z
        omega
theorem x_lowest {f : Nat → Bool} (h : fk f ≠ []) (G : List Cell) : m_lowest [nmW f] G = some (.ok (.val (.int (low f : Nat))), G) := by
  unfold m_lowest
  rw [fnM_e]
  obtain ⟨h1, h2, h3⟩ := low_ok h
  generalize low f = m at h1 h2 h3 ⊢
  obtain ⟨s', e, ⟨k, hk, rfl⟩, hg⟩ := mWhile_at (c := mB (mBin fEqD (mBin fBAnd (mBin fShr (mName 0) (mName 1)) (mC (.int 1))) (mC (.int 0)))) (b := mAug 1 fAddA1 (mC (.int 1))) (s := ⟨[.val (nmW f), .val (.int (0 : Nat))], G⟩)
    (fun s => ∃ k : Nat, k ≤ m ∧ s = ⟨[.val (nmW f), .val (.int (k : Nat))], G⟩) (fun s => match s.r with | [_, .val (.int i)] => (8 - i.toNat) | _ => 0) (fun s => match s.r with | [_, .val (.int i)] => !f i.toNat | _ => false) ⟨0, Nat.zero_le _, rfl⟩ (Nat.lt_of_le_of_lt (Nat.sub_le _ _) (Nat.lt_trans (by decide : 8 < 99999) fuel_ge)) (by
      rintro s ⟨k, hk, rfl⟩
      have sh : fShr (nmW f) (.int (k : Nat)) = some (.imm (.int ((nmask f : Nat) / 2 ^ k))) := by
        unfold nmW
        rw [fShr_i, if_pos (by omega), Int.toNat_natCast]
      have an : fBAnd (.int ((nmask f : Nat) / 2 ^ k)) (.int 1) = some (.imm (.int (if f k = true then 1 else 0))) := by
        show some (OR.imm (.int (Builtin.bitAnd _ 1))) = _
        rw [and_one_bit, nmask_bit f k (by omega)]
      refine ⟨⟨[.val (nmW f), .val (.int (k : Nat))], G⟩, ?_, fun _ => rfl, fun hg => ?_⟩
      · cases q : f k <;> simp [sh, an, q, fEqD_i]
      · have q : f k = false := by simpa using hg
        have lt : k < m := by
          rcases Nat.lt_or_ge k m with z | z
          · exact z
          · have : k = m := by omega
            subst this
            rw [h2] at q; cases q
        exact ⟨⟨[.val (nmW f), .val (.int ((k + 1 : Nat)))], G⟩, by simp, ⟨k + 1, lt, rfl⟩, by simp; omega⟩)
  have hk' : f k = true := by simpa using hg
  have : k = m := by
    rcases Nat.lt_or_ge k m with z | z
    · rw [h3 k z] at hk'; cases hk'
    · omega
  subst this
  have e : mWhile (mB (mBin fEqD (mBin fBAnd (mBin fShr (mName 0) (mName 1)) (mC (.int 1))) (mC (.int 0)))) (mAug 1 fAddA1 (mC (.int 1))) ⟨[.val (nmW f), .val (.int 0)], G⟩ = _ := e
  simp [b_lowest, e]
end Z
set_option linter.all false
set_option maxRecDepth 100000
set_option maxHeartbeats 4000000
namespace Z
open PySem PySem.Spec PyProof.Rows L2
def natI (l : List Nat) : W := tupI (l.map fun (c : Nat) => (c : Int))
theorem dd_nodup {ns : List Int} (h : ns.Nodup) : ddN ns = ns.length := by
  unfold ddN
  rw [RZ.firstMet_nodup h ns.length (Nat.le_refl _)]
  simp
theorem dd_full {ns : List Int} : ∀ i, i ≤ ns.length → (firstMet (fun i => ns.getD i 0) i).length = i → (ns.take i).Nodup
  | 0, _, _ => by simp
  | i + 1, hi, h => by
    have hlt : i < ns.length := hi
    have le := firstMet_length_le (fun i => ns.getD i 0) i
    have e1 : ns.getD i 0 = ns[i] := by
      rw [List.getD_eq_getElem?_getD, List.getElem?_eq_getElem hlt]
      rfl
    rw [firstMet_succ] at h
    unfold step_dedup at h
    by_cases q : (firstMet (fun i => ns.getD i 0) i).any (· == ns.getD i 0) = true
    · rw [if_pos q] at h
      omega
    · rw [if_neg q] at h
      simp only [List.length_append, List.length_singleton] at h
      have ih := dd_full i (Nat.le_of_lt hlt) (by omega)
      rw [firstMet_any] at q
      rw [List.take_succ_eq_append_getElem hlt, List.nodup_append]
      refine ⟨ih, by simp, fun a ha b hb => ?_⟩
      rw [List.mem_singleton] at hb
      subst hb
      intro z
      subst z
      apply q
      rw [List.any_eq_true]
      refine ⟨ns[i], ?_, by rw [e1]; simp⟩
      rw [List.mem_map]
      obtain ⟨j, hj, e⟩ := List.mem_iff_getElem.mp ha
      have hj' : j < i := by
        have := hj
        rw [List.length_take] at this
        omega
      refine ⟨j, List.mem_range.mpr hj', ?_⟩
      rw [List.getElem_take] at e
      rw [List.getD_eq_getElem?_getD, List.getElem?_eq_getElem (by omega)]
      exact e
theorem dd_lt {ns : List Int} : ddN ns < ns.length ↔ ¬ ns.Nodup := by
  constructor
  · intro h n
    rw [dd_nodup n] at h
    omega
  · intro n
    have le := firstMet_length_le (fun i => ns.getD i 0) ns.length
    have : ddN ns ≠ ns.length := fun e => n (by
      have := dd_full (ns := ns) ns.length (Nat.le_refl _) e
      rwa [List.take_length] at this)
    have : ddN ns ≤ ns.length := le
    omega
def isPathB (n : Nat) (xs : List Int) : Bool := decide (3 ≤ xs.length) && (decide xs.Nodup && xs.all fun (c : Int) => decide (0 ≤ c) && decide (c < n))
theorem x_is_path (rs : List (List Int)) (hn : rs.length ≤ 1000) (xs : List Int) (hl : xs.length ≤ 60) (G : List Cell) : m_is_path [lay rs, tupI xs] G = some (.ok (.val (.bl (isPathB rs.length xs))), G) := by
  unfold m_is_path
  rw [fnM_e]
  have dd : ddW (tupI xs) = some (ddN xs) := by
    show (match intsOf (xs.map W.int) with | some ns => if ns.length ≤ 60 then some (ddN ns) else none | none => none) = _
    rw [intsOf_ints]
    exact if_pos hl
  have ln : fLen [tupI xs] = some (.imm (.int xs.length)) := by
    show some (OR.imm (.int ((xs.map W.int).length : Nat))) = _
    rw [List.length_map]
  have lk : Lk (rs.length : Int) := lk_nat (by omega)
  have lc : lcL [2] (tgN 2) mYes (mChain fLe fLt (mC (.int 0)) (mName 2) (mLenO "Layout" m_Layout___len__ (mCons (mName 0) mNil))) ⟨xs.map W.int, none⟩ (xs.map W.int) [] ⟨[.val (lay rs), .val (tupI xs), .non], G⟩ =
      some (.ok (.own (.lst (xs.map fun (c : Int) => W.bl (decide (0 ≤ c) && decide (c < rs.length))))), ⟨[.val (lay rs), .val (tupI xs), .non], G⟩) := by
    rw [lc_all (by exact trivial) (fun (c : Int) => W.bl (decide (0 ≤ c) && decide (c < rs.length)))]
    · simp
    · intro c hc
      refine ⟨⟨[.val (lay rs), .val (tupI xs), .val (.int c)], G⟩, by simp, ⟨[.val (lay rs), .val (tupI xs), .val (.int c)], G⟩, ?_, by simp⟩
      by_cases h0 : 0 ≤ c <;> simp [h0, x_len, lk]
    · show 0 + _ ≤ 16777216; omega
  have fa : fAll [.lst (xs.map fun (c : Int) => W.bl (decide (0 ≤ c) && decide (c < rs.length)))] = some (.imm (.bl (xs.all fun (c : Int) => decide (0 ≤ c) && decide (c < rs.length)))) := by
    have : blsOf (xs.map fun (c : Int) => W.bl (decide (0 ≤ c) && decide (c < rs.length))) = some (xs.map fun (c : Int) => decide (0 ≤ c) && decide (c < rs.length)) := by
      clear hl dd ln lc
      induction xs with
      | nil => rfl
      | cons x xs ih => simp [blsOf, ih]
    unfold fAll
    simp [this]
  unfold isPathB
  by_cases h1 : 3 ≤ xs.length
  · have h1' : ¬ ((xs.length : Int) < 3) := by omega
    by_cases h2 : xs.Nodup
    · have h2' : ¬ ((ddN xs : Int) < xs.length) := fun z => (dd_lt.mp (by omega)) h2
      simp [b_is_path, ln, h1', dd, h2', lc, fa, h1, h2]
    · have h2' : ((ddN xs : Int) < xs.length) := by
        have := dd_lt.mpr h2
        omega
      simp [b_is_path, ln, h1', dd, h2', h2]
  · have h1' : ((xs.length : Int) < 3) := by omega
    simp [b_is_path, ln, h1', h1]
def lastB (rs : List (List Int)) (ps : List Nat) (t : Nat) : Nat → Bool := keyB rs (ps.getD (ps.length - 1) 0) t []
def midB (rs : List (List Int)) (ps : List Nat) (t : Nat) (i : Nat) : Nat → Bool := keyB rs (ps.getD i 0) (ps.getD (i + 1) 0) (ps.drop (i + 2) ++ [t])
def firstB (rs : List (List Int)) (ps : List Nat) : Nat → Bool := keyB rs (ps.getD 0 0) (ps.getD 1 0) (ps.drop 2)
def earlyB (rs : List (List Int)) (ps : List Nat) (t : Nat) : Nat → Bool := keyB rs (ps.getD 0 0) t (ps.drop 2)
def bothB (rs : List (List Int)) (ps : List Nat) (t : Nat) : Nat → Bool := fun k => firstB rs ps k && earlyB rs ps t k
def midsB (rs : List (List Int)) (ps : List Nat) (t : Nat) : List (Nat → Bool) := (List.range (ps.length - 2)).map fun i => midB rs ps t (i + 1)
def isChain (rs : List (List Int)) (ps : List Nat) (t : Nat) : Bool := !decide (fk (firstB rs ps) = []) && (!decide (fk (earlyB rs ps t) = []) && ((midsB rs ps t ++ [lastB rs ps t]).all fun f => !decide (fk f = [])))
def headKeys (rs : List (List Int)) (ps : List Nat) (t : Nat) : List Nat := if fk (bothB rs ps t) = [] then [low (earlyB rs ps t), low (firstB rs ps)] else [low (bothB rs ps t)]
def chainKeys (rs : List (List Int)) (ps : List Nat) (t : Nat) : List Nat := headKeys rs ps t ++ (midsB rs ps t ++ [lastB rs ps t]).map low
theorem getD_at {α : Type} {l : List α} {i : Nat} {d : α} (h : i < l.length) : l.getD i d = l[i] := by
  rw [List.getD_eq_getElem?_getD, List.getElem?_eq_getElem h]
  rfl
theorem rev_range {α : Type} (f : Nat → α) (n : Nat) : ((List.range n).map fun i => f (n - 1 - i)).reverse = (List.range n).map f := by
  apply List.ext_getElem
  · simp
  · intro i h1 h2
    simp at h1
    simp only [List.getElem_reverse, List.getElem_map, List.getElem_range, List.length_map, List.length_range]
    congr 1
    omega
end Z
set_option linter.all false
set_option maxRecDepth 100000
set_option maxHeartbeats 4000000
namespace Z
open PySem PySem.Spec PyProof.Rows L2
theorem mask_at2 {rs : List (List Int)} (hc : ∀ xs ∈ rs, canon xs = xs) {c : Nat} (h : c < rs.length) : atI (rs.map fun xs => W.int (mask xs)) (c : Int) = some (nmW (rowB rs c)) := by
  rw [atI_nat (v := W.int (mask rs[c])) (by simp [h]), mask_nat (hc _ (List.getElem_mem h))]
  unfold nmW rowB
  rw [getD_at h]
theorem nm_zero_W {rs : List (List Int)} : W.int 0 = nmW (unB rs []) := rfl
theorem last_eq {rs : List (List Int)} {a b : Nat} : (fun k => rowB rs a k && rowB rs b k) = keyB rs a b [] := by
  funext k
  simp [keyB, unB]
theorem un_cons {rs : List (List Int)} {a : Nat} {l : List Nat} : (fun k => unB rs l k || rowB rs a k) = unB rs (a :: l) := by
  funext k
  simp [unB, Bool.or_comm]
theorem mid_eq {rs : List (List Int)} {a b t : Nat} {l : List Nat} : (fun k => ((rowB rs a k && rowB rs b k) && !unB rs l k) && !rowB rs t k) = keyB rs a b (l ++ [t]) := by
  funext k
  unfold keyB unB
  rw [List.any_append]
  simp [Bool.and_assoc]
theorem drop_pre {α : Type} {l : List α} {i : Nat} (h : i < l.length) : l.drop i = l[i] :: l.drop (i + 1) := List.drop_eq_getElem_cons h
def chF (rs : List (List Int)) (ps : List Nat) (t : Nat) (j : Nat) : List (Nat → Bool) := lastB rs ps t :: (List.range j).map fun i => midB rs ps t (ps.length - 2 - i)
theorem chF_succ {rs : List (List Int)} {ps : List Nat} {t j : Nat} : chF rs ps t (j + 1) = chF rs ps t j ++ [midB rs ps t (ps.length - 2 - j)] := by
  unfold chF
  rw [List.range_succ, List.map_append]
  rfl
theorem chF_rev {rs : List (List Int)} {ps : List Nat} {t : Nat} : (chF rs ps t (ps.length - 2)).reverse = midsB rs ps t ++ [lastB rs ps t] := by
  unfold chF midsB
  rw [List.reverse_cons]
  congr 1
  rw [← rev_range (fun i => midB rs ps t (i + 1))]
  congr 1
  refine List.map_congr_left fun i hi => ?_
  have := List.mem_range.mp hi
  congr 1
  omega
theorem fIn0 {fs : List (Nat → Bool)} : fIn false (.int 0) (.lst (fs.map nmW)) = some (.imm (.bl (fs.any fun f => decide (fk f = [])))) := by
  have e : fs.map nmW = (fs.map fun f => ((nmask f : Nat) : Int)).map W.int := by
    rw [List.map_map]
    rfl
  rw [e, fIn_lI]
  congr 3
  rw [Bool.eq_iff_iff]
  simp only [Bool.bne_false, decide_eq_true_eq, List.mem_map, List.any_eq_true]
  constructor
  · rintro ⟨f, hf, z⟩
    exact ⟨f, hf, nm_zero.mp (by omega)⟩
  · rintro ⟨f, hf, z⟩
    exact ⟨f, hf, by rw [nm_zero.mpr z]; rfl⟩
section
variable (rs : List (List Int)) (ps : List Nat) (t : Nat)
abbrev ckS (x2 x3 x4 x5 x6 x7 x8 x9 x11 x13 : SV) (G : List Cell) : S := ⟨[.val (lay rs), .val (natI (ps ++ [t])), x2, x3, x4, x5, x6, x7, x8, x9, .val (.int (t : Nat)), x11, .non, x13], G⟩
theorem ck_masks (hc : ∀ xs ∈ rs, canon xs = xs) (hp : ∀ c ∈ ps, c < rs.length) (hl : ps.length ≤ 1000) (G : List Cell) :
    lcL [12] (tgN 12) mYes (mBin fIx (mUn (fFld fn_masks "masks") (mName 0)) (mName 12)) ⟨(ps.map fun (c : Nat) => W.int (c : Int)), none⟩ (ps.map fun (c : Nat) => W.int (c : Int)) [] (ckS rs ps t .non .non .non .non .non .non .non .non (.val (.lst (ps.map fun (c : Nat) => W.int (c : Int)))) .non G) =
      some (.ok (.own (.lst (ps.map fun c => nmW (rowB rs c)))), ckS rs ps t .non .non .non .non .non .non .non .non (.val (.lst (ps.map fun (c : Nat) => W.int (c : Int)))) .non G) := by
  have key := lc_all (s := ckS rs ps t .non .non .non .non .non .non .non .non (.val (.lst (ps.map fun (c : Nat) => W.int (c : Int)))) .non G) (k := ⟨(ps.map fun (c : Nat) => W.int (c : Int)), none⟩) (vs := [12]) (t := tgN 12) (tt := mYes) (me := mBin fIx (mUn (fFld fn_masks "masks") (mName 0)) (mName 12)) (e := fun (c : Nat) => W.int (c : Int)) trivial
    (fun c => nmW (rowB rs c)) ps [] (fun c hm => ⟨⟨[.val (lay rs), .val (natI (ps ++ [t])), .non, .non, .non, .non, .non, .non, .non, .non, .val (.int (t : Nat)), .val (.lst (ps.map fun (c : Nat) => W.int (c : Int))), .val (.int (c : Nat)), .non], G⟩, by simp, ⟨[.val (lay rs), .val (natI (ps ++ [t])), .non, .non, .non, .non, .non, .non, .non, .non, .val (.int (t : Nat)), .val (.lst (ps.map fun (c : Nat) => W.int (c : Int))), .val (.int (c : Nat)), .non], G⟩, by simp [mask_at2 hc (hp c hm)], by simp⟩) (by show 0 + _ ≤ 16777216; omega)
  rw [List.nil_append] at key
  exact key
theorem mk_at {i : Nat} (h : i < ps.length) : atI (ps.map fun c => nmW (rowB rs c)) (i : Int) = some (nmW (rowB rs (ps.getD i 0))) := by
  rw [atI_nat (v := nmW (rowB rs ps[i])) (by simp [h]), getD_at h]
theorem atI_last {α : Type} {l : List α} {x : α} (h : l ≠ []) (e : l[l.length - 1]? = some x) : atI l (-1) = some x := by
  have hl : 0 < l.length := List.length_pos_iff.mpr h
  have : ixN l.length (-1) = some (l.length - 1) := by
    unfold ixN
    rw [if_neg (by decide), if_pos (by omega)]
    congr 1
    omega
  unfold atI
  rw [this]
  exact e
noncomputable def ckLoop : Mo Fl := (mFor (mRng3 (mCons (mBin fSub (mCB fLen (mCons (mName 11) mNil)) (mC (.int 2))) (mCons (mC (.int 0)) (mCons (mUn fNeg (mC (.int 1))) mNil)))) (tgN 6) (mSeq (mDrop (mMut .lst fAppend (mName 4) (mCons (mBin fBAnd (mBin fBAnd (mBin fBAnd (mBin fIx (mName 2) (mName 6)) (mBin fIx (mName 2) (mBin fAdd (mName 6) (mC (.int 1))))) (mUn fInv (mName 5))) (mUn fInv (mName 3))) mNil))) (mAug 5 fOrA1 (mBin fIx (mName 2) (mBin fAdd (mName 6) (mC (.int 1)))))))
theorem ck_loop (h2 : 2 ≤ ps.length) (hl : ps.length ≤ 1000) (G : List Cell) (x11 : SV) (hx : x11 = .val (.lst (ps.map fun (c : Nat) => W.int (c : Int)))) : ∃ x6, ckLoop (ckS rs ps t (.own (.lst (ps.map fun c => nmW (rowB rs c)))) (.val (nmW (rowB rs t))) (.own (.lst ((chF rs ps t 0).map nmW))) (.val (nmW (unB rs []))) .non .non .non .non x11 .non G) =
    some (.ok .nx, ckS rs ps t (.own (.lst (ps.map fun c => nmW (rowB rs c)))) (.val (nmW (rowB rs t))) (.own (.lst ((chF rs ps t (ps.length - 2)).map nmW))) (.val (nmW (unB rs (ps.drop 2)))) x6 .non .non .non x11 .non G) := by
  subst hx
  have ln : fLen [.lst (ps.map fun (c : Nat) => W.int (c : Int))] = some (.imm (.int ps.length)) := by simp
  have r1 : Rk ((ps.length : Int) - 2) := by
    have := rk_nat (n := ps.length - 2) (by omega)
    rw [show ((ps.length : Int) - 2) = ((ps.length - 2 : Nat) : Int) by omega]
    exact this
  have r0 : Rk 0 := rk_nat (n := 0) (by omega)
  have tn : ((ps.length : Int) - 2 - 0).toNat = ps.length - 2 := by omega
  generalize hk : (ps.map fun (c : Nat) => W.int (c : Int)) = PW at ln
  unfold ckLoop
  simp [ckS, ln, r1, r0]
  have tn' : ((ps.length : Int) - 2).toNat = ps.length - 2 := by omega
  rw [tn']
  generalize hF : forL _ _ _ _ = F
  obtain ⟨s', rfl, x6, later, fs, rfl, h1, h3⟩ := forL_at hF (fun j s => ∃ x6 later fs, s = ckS rs ps t (.own (.lst (ps.map fun c => nmW (rowB rs c)))) (.val (nmW (rowB rs t))) (.own (.lst (fs.map nmW))) (.val (nmW later)) x6 .non .non .non (.val (.lst PW)) .non G ∧ fs = chF rs ps t j ∧ later = unB rs (ps.drop (ps.length - j))) ⟨.non, unB rs [], chF rs ps t 0, rfl, rfl, by simp⟩ (by
    rintro j hj s ⟨x6, later, fs, rfl, h1, h3⟩
    have hj : j < ps.length - 2 := by simpa [dnW] using hj
    have ei : (dnW ((ps.length : Int) - 2) (ps.length - 2))[j]'(by simpa [dnW] using hj) = W.int ((ps.length - 2 - j : Nat) : Int) := by
      simp [dnW]
      omega
    rw [ei]
    have a1 := mk_at rs ps (i := ps.length - 2 - j) (by omega)
    have a2 := mk_at rs ps (i := ps.length - 2 - j + 1) (by omega)
    have a2 : atI (ps.map fun c => nmW (rowB rs c)) (((ps.length - 2 - j : Nat) : Int) + 1) = _ := a2
    have small : fs.length < sz := by
      rw [h1]
      unfold chF
      simp
      show _ < 16777216
      omega
    have e1 : (fun k => ((rowB rs (ps.getD (ps.length - 2 - j) 0) k && rowB rs (ps.getD (ps.length - 2 - j + 1) 0) k) && !later k) && !rowB rs t k) = midB rs ps t (ps.length - 2 - j) := by
      rw [h3, mid_eq]
      unfold midB
      congr 3
      omega
    have e2 : (fun k => later k || rowB rs (ps.getD (ps.length - 2 - j + 1) 0) k) = unB rs (ps.drop (ps.length - (j + 1))) := by
      rw [h3, un_cons]
      congr 1
      have : ps.length - (j + 1) < ps.length := by omega
      rw [drop_pre this, getD_at (by omega)]
      congr 2 <;> omega
    refine ⟨ckS rs ps t (.own (.lst (ps.map fun c => nmW (rowB rs c)))) (.val (nmW (rowB rs t))) (.own (.lst ((fs ++ [midB rs ps t (ps.length - 2 - j)]).map nmW))) (.val (nmW (unB rs (ps.drop (ps.length - (j + 1)))))) (.val (.int ((ps.length - 2 - j : Nat) : Int))) .non .non .non (.val (.lst PW)) .non G, ?_, _, _, _, rfl, by rw [h1, ← chF_succ], rfl⟩
    rw [← e1, ← e2]
    generalize ps.length - 2 - j = at_ at a1 a2
    generalize rowB rs (ps.getD at_ 0) = A at a1
    generalize rowB rs (ps.getD (at_ + 1) 0) = B at a2
    simp [ckS, a1, a2, fBAnd_nm, fInv_nm, fBAndN_nm, fOr_nm, fAppend, small])
  refine ⟨x6, ?_⟩
  have hd : (dnW ((ps.length : Int) - 2) (ps.length - 2)).length = ps.length - 2 := by simp [dnW]
  rw [hd] at h1 h3
  rw [h1, h3]
  have : ps.length - (ps.length - 2) = 2 := by omega
  rw [this]
end
end Z
set_option linter.all false
set_option maxRecDepth 100000
set_option maxHeartbeats 4000000
namespace Z
open PySem PySem.Spec PyProof.Rows L2
theorem seqt {a b : Mo Fl} {s s' : S} (h : a s = some (.ok .nx, s')) : mSeq a b s = b s' := bnd_at h
theorem x_keys_bad (rs : List (List Int)) (hn : rs.length ≤ 1000) (xs : List Int) (hl : xs.length ≤ 60) (hp : isPathB rs.length xs = false) (G : List Cell) : m_chain_keys [lay rs, tupI xs] G = some (.ok (.val .non), G) := by
  unfold m_chain_keys
  rw [fnM_o]
  have e := x_is_path rs hn xs hl G
  rw [hp] at e
  rw [chain_keys_cut]
  simp [chain_keys_t0, chain_keys_s0, e]
def numsW (l : List Nat) : List W := l.map fun (k : Nat) => W.int (k : Int)
theorem low_map (fs : List (Nat → Bool)) (h : ∀ f ∈ fs, fk f ≠ []) {st : SV → S} {G : List Cell} (hst : ∀ v, (st v).G = G) (ht : ∀ v, tgN 13 v (st .non) = some (.ok (), st (.val v))) (hw : ∀ v, wipeS [13] (st v) = st .non) (hy : ∀ v, mYes (st v) = some (.ok true, st v))
    (he : ∀ f, m_lowest [nmW f] G = some (.ok (.val (.int (low f : Nat))), G) → (bnd (mCall 1 m_lowest (mCons (mName 13) mNil)) fun y => freeze (settle y)) (st (.val (nmW f))) = some (.ok (.int (low f : Nat)), st (.val (nmW f)))) (hl : fs.length ≤ 1000) :
    lcL [13] (tgN 13) mYes (mCall 1 m_lowest (mCons (mName 13) mNil)) ⟨fs.map nmW, none⟩ (fs.map nmW) [] (st .non) = some (.ok (.own (.lst (numsW (fs.map low)))), st .non) := by
  have key := lc_all (s := st .non) (k := ⟨fs.map nmW, none⟩) (vs := [13]) (t := tgN 13) (tt := mYes) (me := mCall 1 m_lowest (mCons (mName 13) mNil)) (e := nmW) trivial (fun f => W.int (low f : Nat)) fs [] (fun f m => ⟨st (.val (nmW f)), by rw [bnd_at (ht _)]; exact hy _, st (.val (nmW f)), he f (x_lowest (h f m) G), hw _⟩) (by show 0 + _ ≤ 16777216; omega)
  rw [List.nil_append] at key
  unfold numsW
  rw [List.map_map]
  exact key
section
variable (rs : List (List Int)) (ps : List Nat) (t : Nat)
theorem path_in {n : Nat} {ps : List Nat} {t : Nat} (hp : isPathB n ((ps ++ [t]).map fun (c : Nat) => (c : Int)) = true) : 2 ≤ ps.length ∧ (ps ++ [t]).Nodup ∧ (∀ c ∈ ps, c < n) ∧ t < n := by
  unfold isPathB at hp
  simp only [Bool.and_eq_true, decide_eq_true_eq, List.all_eq_true, List.length_map, List.length_append, List.length_singleton] at hp
  obtain ⟨h1, h2, h3⟩ := hp
  have h3' : ∀ c ∈ ps ++ [t], c < n := fun c hc => by
    have := (h3 (c : Int) (List.mem_map.mpr ⟨c, hc, rfl⟩)).2
    omega
  refine ⟨by omega, ?_, fun c hc => h3' c (by simp [hc]), h3' t (by simp)⟩
  unfold List.Nodup at h2 ⊢
  rw [List.pairwise_map] at h2
  exact h2.imp fun h z => h (by omega)
theorem ck_start (hc : ∀ xs ∈ rs, canon xs = xs) (h6 : rs.length ≤ 6) (hl : ps.length ≤ 50) (hp : isPathB rs.length ((ps ++ [t]).map fun (c : Nat) => (c : Int)) = true) (G : List Cell) : ∃ x6, chain_keys_t0 ⟨[.val (lay rs), .val (natI (ps ++ [t])), .non, .non, .non, .non, .non, .non, .non, .non, .non, .non, .non, .non], G⟩ =
    chain_keys_t7 (ckS rs ps t (.own (.lst (ps.map fun c => nmW (rowB rs c)))) (.val (nmW (rowB rs t))) (.own (.lst ((chF rs ps t (ps.length - 2)).map nmW))) (.val (nmW (unB rs (ps.drop 2)))) x6 .non .non .non (.val (.lst (numsW ps))) .non G) := by
  obtain ⟨h2, hnd, hps, ht⟩ := path_in hp
  obtain ⟨x6, e6⟩ := ck_loop rs ps t h2 (by omega) G _ rfl
  refine ⟨x6, ?_⟩
  have e0 := x_is_path rs (by omega) ((ps ++ [t]).map fun (c : Nat) => (c : Int)) (by simp; omega) G
  rw [hp] at e0
  have wn : tupI ((ps ++ [t]).map fun (c : Nat) => (c : Int)) = natI (ps ++ [t]) := rfl
  rw [wn] at e0
  have ln : ∀ r, look (.val (natI (ps ++ [t]))) ⟨r, G⟩ = some (.ok (natI (ps ++ [t])), ⟨r, G⟩) := fun _ => rfl
  have s0 : chain_keys_s0 ⟨[.val (lay rs), .val (natI (ps ++ [t])), .non, .non, .non, .non, .non, .non, .non, .non, .non, .non, .non, .non], G⟩ = some (.ok .nx, ⟨[.val (lay rs), .val (natI (ps ++ [t])), .non, .non, .non, .non, .non, .non, .non, .non, .non, .non, .non, .non], G⟩) := by
    simp [chain_keys_s0, e0]
  have wt : natI (ps ++ [t]) = .tup (numsW ps ++ [.int (t : Int)]) := by
    unfold natI tupI numsW
    simp
  have s1 : chain_keys_s1 ⟨[.val (lay rs), .val (natI (ps ++ [t])), .non, .non, .non, .non, .non, .non, .non, .non, .non, .non, .non, .non], G⟩ = some (.ok .nx, ckS rs ps t .non .non .non .non .non .non .non .non (.own (.lst (numsW ps))) .non G) := by
    simp only [ckS]
    rw [wt]
    simp [chain_keys_s1]
  have lm := ck_masks rs ps t hc hps (by omega) G
  have s2 : chain_keys_s2 (ckS rs ps t .non .non .non .non .non .non .non .non (.own (.lst (numsW ps))) .non G) = some (.ok .nx, ckS rs ps t (.own (.lst (ps.map fun c => nmW (rowB rs c)))) .non .non .non .non .non .non .non (.val (.lst (numsW ps))) .non G) := by
    have lm : lcL [12] (tgN 12) mYes (mBin fIx (mUn (fFld fn_masks "masks") (mName 0)) (mName 12)) ⟨numsW ps, none⟩ (numsW ps) [] (ckS rs ps t .non .non .non .non .non .non .non .non (.val (.lst (numsW ps))) .non G) = some (.ok (.own (.lst (ps.map fun c => nmW (rowB rs c)))), ckS rs ps t .non .non .non .non .non .non .non .non (.val (.lst (numsW ps))) .non G) := lm
    simp only [ckS] at lm ⊢
    generalize numsW ps = NW at lm ⊢
    simp [chain_keys_s2, lm]
  have mt := mask_at2 hc ht
  have s3 : chain_keys_s3 (ckS rs ps t (.own (.lst (ps.map fun c => nmW (rowB rs c)))) .non .non .non .non .non .non .non (.val (.lst (numsW ps))) .non G) = some (.ok .nx, ckS rs ps t (.own (.lst (ps.map fun c => nmW (rowB rs c)))) (.val (nmW (rowB rs t))) .non .non .non .non .non .non (.val (.lst (numsW ps))) .non G) := by
    simp only [ckS]
    simp [chain_keys_s3, mt]
  have al : atI (ps.map fun c => nmW (rowB rs c)) (-1) = some (nmW (rowB rs (ps.getD (ps.length - 1) 0))) := by
    refine atI_last (by intro z; rw [List.map_eq_nil_iff] at z; rw [z] at h2; simp at h2) ?_
    rw [List.length_map, List.getElem?_map, List.getElem?_eq_getElem (by omega), getD_at (by omega)]
    rfl
  have z1 : 1 ≤ sz := by decide
  have el : nmW (fun k => rowB rs (ps.getD (ps.length - 1) 0) k && rowB rs t k) = nmW (lastB rs ps t) := by
    rw [last_eq]
    rfl
  have s4 : chain_keys_s4 (ckS rs ps t (.own (.lst (ps.map fun c => nmW (rowB rs c)))) (.val (nmW (rowB rs t))) .non .non .non .non .non .non (.val (.lst (numsW ps))) .non G) = some (.ok .nx, ckS rs ps t (.own (.lst (ps.map fun c => nmW (rowB rs c)))) (.val (nmW (rowB rs t))) (.own (.lst ((chF rs ps t 0).map nmW))) .non .non .non .non .non (.val (.lst (numsW ps))) .non G) := by
    simp only [ckS]
    have : (chF rs ps t 0).map nmW = [nmW (lastB rs ps t)] := rfl
    rw [this, ← el]
    generalize rowB rs (ps.getD (ps.length - 1) 0) = A at al
    simp [chain_keys_s4, al, fBAnd_nm, z1]
  have s5 : chain_keys_s5 (ckS rs ps t (.own (.lst (ps.map fun c => nmW (rowB rs c)))) (.val (nmW (rowB rs t))) (.own (.lst ((chF rs ps t 0).map nmW))) .non .non .non .non .non (.val (.lst (numsW ps))) .non G) = some (.ok .nx, ckS rs ps t (.own (.lst (ps.map fun c => nmW (rowB rs c)))) (.val (nmW (rowB rs t))) (.own (.lst ((chF rs ps t 0).map nmW))) (.val (nmW (unB rs []))) .non .non .non .non (.val (.lst (numsW ps))) .non G) := by
    simp only [ckS]
    rw [← nm_zero_W (rs := rs)]
    simp [chain_keys_s5]
  have s6 : chain_keys_s6 (ckS rs ps t (.own (.lst (ps.map fun c => nmW (rowB rs c)))) (.val (nmW (rowB rs t))) (.own (.lst ((chF rs ps t 0).map nmW))) (.val (nmW (unB rs []))) .non .non .non .non (.val (.lst (numsW ps))) .non G) = _ := e6
  unfold chain_keys_t0
  rw [seqt s0]
  unfold chain_keys_t1
  rw [seqt s1]
  unfold chain_keys_t2
  rw [seqt s2]
  unfold chain_keys_t3
  rw [seqt s3]
  unfold chain_keys_t4
  rw [seqt s4]
  unfold chain_keys_t5
  rw [seqt s5]
  unfold chain_keys_t6
  rw [seqt s6]
  rfl
theorem any_all {fs : List (Nat → Bool)} : (fs.any fun f => decide (fk f = [])) = !(fs.all fun f => !decide (fk f = [])) := by
  induction fs with
  | nil => rfl
  | cons f fs ih => simp only [List.any_cons, List.all_cons, ih]; cases decide (fk f = []) <;> rfl
theorem x_keys (hc : ∀ xs ∈ rs, canon xs = xs) (h6 : rs.length ≤ 6) (hl : ps.length ≤ 50) (hp : isPathB rs.length ((ps ++ [t]).map fun (c : Nat) => (c : Int)) = true) (G : List Cell) : m_chain_keys [lay rs, natI (ps ++ [t])] G =
    some (.ok (if isChain rs ps t = true then .own (.lst (numsW (chainKeys rs ps t))) else .val .non), G) := by
  unfold m_chain_keys
  rw [fnM_o, chain_keys_cut]
  show outF (chain_keys_t0 ⟨[.val (lay rs), .val (natI (ps ++ [t])), .non, .non, .non, .non, .non, .non, .non, .non, .non, .non, .non, .non], G⟩) = _
  obtain ⟨x6, e⟩ := ck_start rs ps t hc h6 hl hp G
  rw [e]
  obtain ⟨h2, hnd, hps, ht⟩ := path_in hp
  have a0 := mk_at rs ps (i := 0) (by omega)
  have a1 := mk_at rs ps (i := 1) (by omega)
  have a0 : atI (ps.map fun c => nmW (rowB rs c)) 0 = _ := a0
  have a1 : atI (ps.map fun c => nmW (rowB rs c)) 1 = _ := a1
  have s7 : chain_keys_s7 (ckS rs ps t (.own (.lst (ps.map fun c => nmW (rowB rs c)))) (.val (nmW (rowB rs t))) (.own (.lst ((chF rs ps t (ps.length - 2)).map nmW))) (.val (nmW (unB rs (ps.drop 2)))) x6 .non .non .non (.val (.lst (numsW ps))) .non G) =
      some (.ok .nx, ckS rs ps t (.own (.lst (ps.map fun c => nmW (rowB rs c)))) (.val (nmW (rowB rs t))) (.own (.lst ((chF rs ps t (ps.length - 2)).map nmW))) (.val (nmW (unB rs (ps.drop 2)))) x6 (.val (nmW (firstB rs ps))) .non .non (.val (.lst (numsW ps))) .non G) := by
    rw [show firstB rs ps = fun k => (rowB rs (ps.getD 0 0) k && rowB rs (ps.getD 1 0) k) && !unB rs (ps.drop 2) k from rfl]
    simp only [ckS]
    generalize rowB rs (ps.getD 0 0) = A at a0 ⊢
    generalize rowB rs (ps.getD 1 0) = B at a1 ⊢
    simp [chain_keys_s7, a0, a1, fBAnd_nm, fInv_nm, fBAndN_nm]
  have s8 : chain_keys_s8 (ckS rs ps t (.own (.lst (ps.map fun c => nmW (rowB rs c)))) (.val (nmW (rowB rs t))) (.own (.lst ((chF rs ps t (ps.length - 2)).map nmW))) (.val (nmW (unB rs (ps.drop 2)))) x6 (.val (nmW (firstB rs ps))) .non .non (.val (.lst (numsW ps))) .non G) =
      some (.ok .nx, ckS rs ps t (.own (.lst (ps.map fun c => nmW (rowB rs c)))) (.val (nmW (rowB rs t))) (.own (.lst ((chF rs ps t (ps.length - 2)).map nmW))) (.val (nmW (unB rs (ps.drop 2)))) x6 (.val (nmW (firstB rs ps))) (.val (nmW (earlyB rs ps t))) .non (.val (.lst (numsW ps))) .non G) := by
    rw [show earlyB rs ps t = fun k => (rowB rs (ps.getD 0 0) k && rowB rs t k) && !unB rs (ps.drop 2) k from rfl]
    simp only [ckS]
    generalize rowB rs (ps.getD 0 0) = A at a0 ⊢
    simp [chain_keys_s8, a0, fBAnd_nm, fInv_nm, fBAndN_nm]
  unfold chain_keys_t7
  rw [seqt s7]
  unfold chain_keys_t8
  rw [seqt s8]
  have lenC : (chF rs ps t (ps.length - 2)).length = ps.length - 2 + 1 := by simp [chF]
  have rv := chF_rev (rs := rs) (ps := ps) (t := t)
  have anyR : ((chF rs ps t (ps.length - 2)).any fun f => decide (fk f = [])) = !((midsB rs ps t ++ [lastB rs ps t]).all fun f => !decide (fk f = [])) := by
    rw [← any_all, ← rv, List.any_reverse]
  have i0 := fIn0 (fs := chF rs ps t (ps.length - 2))
  rw [anyR] at i0
  have rvW : ((chF rs ps t (ps.length - 2)).map nmW).reverse = (midsB rs ps t ++ [lastB rs ps t]).map nmW := by
    rw [← List.map_reverse, rv]
  have cks : (chainKeys rs ps t) = headKeys rs ps t ++ (midsB rs ps t ++ [lastB rs ps t]).map low := rfl
  have ml : (midsB rs ps t ++ [lastB rs ps t]).length ≤ 50 := by
    rw [← rv, List.length_reverse, lenC]; omega
  unfold isChain
  generalize (chF rs ps t (ps.length - 2)).map nmW = CW at i0 rvW ⊢
  generalize midsB rs ps t ++ [lastB rs ps t] = FS at i0 rvW ml cks ⊢
  by_cases q1 : fk (firstB rs ps) = []
  · simp [chain_keys_t9, chain_keys_s9, ckS, fEq0_nm, q1, outF]
  by_cases q2 : fk (earlyB rs ps t) = []
  · simp [chain_keys_t9, chain_keys_s9, ckS, fEq0_nm, q1, q2, outF]
  cases q3 : FS.all fun f => !decide (fk f = []) with
  | false =>
    rw [q3] at i0
    simp [chain_keys_t9, chain_keys_s9, ckS, fEq0_nm, q1, q2, i0, outF]
  | true =>
    rw [q3] at i0
    have hk : ∀ f ∈ FS, fk f ≠ [] := fun f hf => by
      have := List.all_eq_true.mp q3 f hf
      simpa using this
    have w1 := x_lowest q1 G
    have w2 := x_lowest q2 G
    have z1 : 1 ≤ sz := by decide
    have z2 : 2 ≤ sz := by decide
    have lm := fun x9 => low_map FS hk (st := fun v => ckS rs ps t (.own (.lst (ps.map fun c => nmW (rowB rs c)))) (.val (nmW (rowB rs t))) (.own (.lst CW)) (.val (nmW (unB rs (ps.drop 2)))) x6 (.val (nmW (firstB rs ps))) (.val (nmW (earlyB rs ps t))) x9 (.val (.lst (numsW ps))) v G) (G := G) (fun _ => rfl) (fun v => by simp [ckS]) (fun v => by simp [ckS]) (fun v => by simp) (fun f hf => by simp [ckS, hf]) (by omega)
    have add1 : ∀ a b : Nat, fAdd (.lst [.int (a : Int), .int (b : Int)]) (.lst (numsW (FS.map low))) = some (.newl (numsW ([a, b] ++ FS.map low))) := fun a b => by
      rw [fAdd_ll (by simp [numsW]; show _ ≤ 16777216; omega)]
      rfl
    have add2 : ∀ a : Nat, fAdd (.lst [.int (a : Int)]) (.lst (numsW (FS.map low))) = some (.newl (numsW ([a] ++ FS.map low))) := fun a => by
      rw [fAdd_ll (by simp [numsW]; show _ ≤ 16777216; omega)]
      rfl
    have bb : fBAnd (nmW (firstB rs ps)) (nmW (earlyB rs ps t)) = some (.imm (nmW (bothB rs ps t))) := fBAnd_nm
    rw [cks]
    unfold headKeys
    simp only [ckS] at lm
    by_cases q4 : fk (bothB rs ps t) = []
    · rw [if_pos q4]
      have go : chain_keys_t9 (ckS rs ps t (.own (.lst (ps.map fun c => nmW (rowB rs c)))) (.val (nmW (rowB rs t))) (.own (.lst CW)) (.val (nmW (unB rs (ps.drop 2)))) x6 (.val (nmW (firstB rs ps))) (.val (nmW (earlyB rs ps t))) .non (.val (.lst (numsW ps))) .non G) =
          some (.ok (.rt (.own (.lst (numsW ([low (earlyB rs ps t), low (firstB rs ps)] ++ FS.map low))))), ckS rs ps t (.own (.lst (ps.map fun c => nmW (rowB rs c)))) (.val (nmW (rowB rs t))) (.own (.lst CW)) (.val (nmW (unB rs (ps.drop 2)))) x6 (.val (nmW (firstB rs ps))) (.val (nmW (earlyB rs ps t))) (.own (.lst [.int (low (earlyB rs ps t) : Nat), .int (low (firstB rs ps) : Nat)])) (.val (.lst (numsW ps))) .non G) := by
        simp [chain_keys_t9, chain_keys_s9, chain_keys_t10, chain_keys_s10, chain_keys_t11, chain_keys_s11, chain_keys_t12, chain_keys_s12, ckS, fEq0_nm, q1, q2, i0, w1, w2, z2, bb, fNe0_nm, q4, rvW, lm, add1]
      rw [go]
      simp [outF, q1, q2]
    · rw [if_neg q4]
      have w3 := x_lowest q4 G
      have go : chain_keys_t9 (ckS rs ps t (.own (.lst (ps.map fun c => nmW (rowB rs c)))) (.val (nmW (rowB rs t))) (.own (.lst CW)) (.val (nmW (unB rs (ps.drop 2)))) x6 (.val (nmW (firstB rs ps))) (.val (nmW (earlyB rs ps t))) .non (.val (.lst (numsW ps))) .non G) =
          some (.ok (.rt (.own (.lst (numsW ([low (bothB rs ps t)] ++ FS.map low))))), ckS rs ps t (.own (.lst (ps.map fun c => nmW (rowB rs c)))) (.val (nmW (rowB rs t))) (.own (.lst CW)) (.val (nmW (unB rs (ps.drop 2)))) x6 (.val (nmW (firstB rs ps))) (.val (nmW (earlyB rs ps t))) (.own (.lst [.int (low (bothB rs ps t) : Nat)])) (.val (.lst (numsW ps))) .non G) := by
        simp [chain_keys_t9, chain_keys_s9, chain_keys_t10, chain_keys_s10, chain_keys_t11, chain_keys_s11, chain_keys_t12, chain_keys_s12, ckS, fEq0_nm, q1, q2, i0, w1, w2, w3, z1, z2, bb, fNe0_nm, q4, rvW, lm, add2]
      rw [go]
      simp [outF, q1, q2]
end
end Z
set_option linter.all false
set_option maxRecDepth 100000
set_option maxHeartbeats 4000000
namespace Z
open PySem PySem.Spec PyProof.Rows L2
def PW : Bool ⊕ Int → W
  | .inl true => .str "write"
  | .inl false => .str "take"
  | .inr i => .int i
def pwD : Bool ⊕ Int → PyData
  | .inl true => .str "write"
  | .inl false => .str "take"
  | .inr i => .int i
theorem emb_pw : Emb PW 0 := ⟨pwD, fun x => by rcases x with (_ | _) | i <;> rfl, fun x => by rcases x with (_ | _) | i <;> first | rfl | decide +kernel, fun x => by rcases x with (_ | _) | i <;> exact Nat.le_refl _, fun x y => by
  rcases x with (_ | _) | i <;> rcases y with (_ | _) | j <;> first | rfl | decide +kernel | skip
  show (i == j) = _
  rw [Bool.eq_iff_iff]
  simp⟩
def stepW (xs : List (Bool ⊕ Int)) : W := .tup (xs.map PW)
theorem emb_step : Emb stepW 1 := emb_tup emb_pw
def wrS (c k v : Int) : List (Bool ⊕ Int) := [.inl true, .inr c, .inr k, .inr v]
def tkS (s t : Int) : List (Bool ⊕ Int) := [.inl false, .inr s, .inr t]
theorem wrS_w {c k v : Int} : W.tup [.str "write", .int c, .int k, .int v] = stepW (wrS c k v) := rfl
theorem tkS_w {s t : Int} : W.tup [.str "take", .int s, .int t] = stepW (tkS s t) := rfl
def turnS (cs keys : List Nat) (e i : Nat) : List (List (Bool ⊕ Int)) := [wrS (cs.getD i 0 : Nat) (keys.getD (i + e) 0 : Nat) ((i + e + 1 : Nat)), tkS (cs.getD i 0 : Nat) (cs.getD (i + 1) 0 : Nat)]
def headS (cs keys : List Nat) (e : Nat) : List (List (Bool ⊕ Int)) := if e = 1 then [wrS (cs.getD 0 0 : Nat) (keys.getD 0 0 : Nat) 1] else []
def runS (cs keys : List Nat) : List (List (Bool ⊕ Int)) := headS cs keys (keys.length - (cs.length - 1)) ++ (List.range (cs.length - 1)).flatMap (turnS cs keys (keys.length - (cs.length - 1)))
theorem numsW_at {l : List Nat} {i : Nat} (h : i < l.length) : atI (numsW l) (i : Int) = some (.int (l.getD i 0 : Nat)) := by
  unfold numsW
  rw [atI_nat (v := W.int (l[i] : Nat)) (by simp [h]), getD_at h]
theorem natI_e (l : List Nat) : natI l = .tup (numsW l) := by
  unfold natI tupI numsW
  rw [List.map_map]
  rfl
theorem numsW_len (l : List Nat) : (numsW l).length = l.length := by simp [numsW]
theorem run_loop (L : W) (cs keys : List Nat) (e : Nat) (he : e ≤ 1) (h1 : 1 ≤ cs.length) (hk : keys.length = cs.length - 1 + e) (hl : cs.length ≤ 60) (G : List Cell) : ∃ x5, chain_run_s5 ⟨[.val L, .val (.tup (numsW cs)), .own (.lst (numsW keys)), .own (.lst ((headS cs keys e).map stepW)), .val (.int (e : Nat)), .non], G⟩ =
    some (.ok .nx, ⟨[.val L, .val (.tup (numsW cs)), .own (.lst (numsW keys)), .own (.lst ((headS cs keys e ++ (List.range (cs.length - 1)).flatMap (turnS cs keys e)).map stepW)), .val (.int (e : Nat)), x5], G⟩) := by
  have ln : fLen [.tup (numsW cs)] = some (.imm (.int cs.length)) := by rw [fLen_t, numsW_len]
  have rk : Rk ((cs.length : Int) - 1) := by
    rw [show ((cs.length : Int) - 1) = ((cs.length - 1 : Nat) : Int) by omega]
    exact rk_nat (by omega)
  have tn : ((cs.length : Int) - 1).toNat = cs.length - 1 := by omega
  simp [chain_run_s5, ln, rk, tn]
  generalize hF : forL _ _ _ _ = F
  obtain ⟨s', rfl, x5, st, rfl, hs⟩ := forL_at hF (fun i s => ∃ x5 st, s = ⟨[.val L, .val (.tup (numsW cs)), .own (.lst (numsW keys)), .own (.lst (st.map stepW)), .val (.int (e : Nat)), x5], G⟩ ∧ st = headS cs keys e ++ (List.range i).flatMap (turnS cs keys e)) ⟨.non, headS cs keys e, rfl, by simp⟩ (by
    rintro i hi s ⟨x5, st, rfl, hs⟩
    have hi : i < cs.length - 1 := by simpa [rngW] using hi
    have ei : (rngW 0 (cs.length - 1))[i]'(by simpa [rngW] using hi) = W.int i := by simp [rngW]
    rw [ei]
    have a1 := numsW_at (l := cs) (i := i) (by omega)
    have a2 : atI (numsW cs) ((i : Int) + 1) = _ := numsW_at (l := cs) (i := i + 1) (by omega)
    have a3 : atI (numsW keys) ((i : Int) + (e : Int)) = _ := numsW_at (l := keys) (i := i + e) (by omega)
    have sl : st.length ≤ 1 + 2 * i := by
      rw [hs, List.length_append]
      have h1 : (headS cs keys e).length ≤ 1 := by unfold headS; split <;> simp
      have h2 : ((List.range i).flatMap (turnS cs keys e)).length = 2 * i := by
        have : ∀ n, ((List.range n).flatMap (turnS cs keys e)).length = 2 * n := by
          intro n
          induction n with
          | zero => rfl
          | succ n ih => rw [List.range_succ, List.flatMap_append, List.length_append, ih]; simp [turnS]; omega
        exact this i
      omega
    have z1 : st.length < sz := by show _ < 16777216; omega
    have z2 : st.length + 1 < sz := by show _ < 16777216; omega
    have z3 : 3 ≤ sz := by decide
    have z4 : 4 ≤ sz := by decide
    have v1 : (i : Int) + (e : Int) + 1 = ((i + e + 1 : Nat) : Int) := by push_cast; rfl
    refine ⟨⟨[.val L, .val (.tup (numsW cs)), .own (.lst (numsW keys)), .own (.lst ((st ++ turnS cs keys e i).map stepW)), .val (.int (e : Nat)), .val (.int (i : Nat))], G⟩, ?_, _, _, rfl, ?_⟩
    · unfold turnS
      generalize cs.getD i 0 = c0 at a1 ⊢
      generalize cs.getD (i + 1) 0 = c1 at a2 ⊢
      generalize keys.getD (i + e) 0 = k1 at a3 ⊢
      have f1 : fAppend (.lst (st.map stepW)) [.tup [.str "write", .int (c0 : Int), .int (k1 : Int), .int ((i : Int) + (e : Int) + 1)]] = some (.non, .lst ((st ++ [wrS c0 k1 ((i + e + 1 : Nat) : Int)]).map stepW)) := by
        rw [v1]
        simp [fAppend, z1, wrS_w]
      have f2 : fAppend (.lst ((st ++ [wrS c0 k1 ((i + e + 1 : Nat) : Int)]).map stepW)) [.tup [.str "take", .int (c0 : Int), .int (c1 : Int)]] = some (.non, .lst ((st ++ [wrS c0 k1 ((i + e + 1 : Nat) : Int), tkS c0 c1]).map stepW)) := by
        simp [fAppend, z2, tkS_w]
      generalize (st ++ [wrS c0 k1 ((i + e + 1 : Nat) : Int)]).map stepW = M1 at f1 f2
      generalize (st ++ [wrS c0 k1 ((i + e + 1 : Nat) : Int), tkS c0 c1]).map stepW = M2 at f2 ⊢
      generalize st.map stepW = M0 at f1 ⊢
      generalize numsW cs = C at a1 a2 ⊢
      generalize numsW keys = KK at a3 ⊢
      simp [chain_run_s5b_t0, chain_run_s5b_s0, chain_run_s5b_t1, chain_run_s5b_s1, a1, a2, a3, f1, f2, z3, z4]
    · rw [hs, List.range_succ, List.flatMap_append]
      simp)
  refine ⟨x5, ?_⟩
  rw [hs]
  simp [rngW]
theorem x_run_go (L : W) (cs keys : List Nat) (e : Nat) (he : e ≤ 1) (h1 : 2 ≤ cs.length) (hk : keys.length = cs.length - 1 + e) (hl : cs.length ≤ 60) (G : List Cell) (hL : ∀ r, look (.val L) ⟨r, G⟩ = some (.ok L, ⟨r, G⟩)) (hck : m_chain_keys [L, .tup (numsW cs)] G = some (.ok (.own (.lst (numsW keys))), G)) :
    m_chain_run [L, .tup (numsW cs)] G = some (.ok (.own (.lst ((runS cs keys).map stepW))), G) := by
  unfold m_chain_run
  rw [fnM_o, chain_run_cut]
  show outF (chain_run_t0 ⟨[.val L, .val (.tup (numsW cs)), .non, .non, .non, .non], G⟩) = _
  obtain ⟨x5, lp⟩ := run_loop L cs keys e he (by omega) hk hl G
  have eq : keys.length - (cs.length - 1) = e := by omega
  have ln : fLen [.tup (numsW cs)] = some (.imm (.int cs.length)) := by rw [fLen_t, numsW_len]
  have lk : fLen [.lst (numsW keys)] = some (.imm (.int keys.length)) := by rw [fLen_l, numsW_len]
  have ve : (keys.length : Int) - cs.length + 1 = (e : Int) := by omega
  have a1 : atI (numsW cs) 0 = _ := numsW_at (l := cs) (i := 0) (by omega)
  have a2 : atI (numsW keys) 0 = _ := numsW_at (l := keys) (i := 0) (by omega)
  have z4 : 4 ≤ sz := by decide
  have z0 : 0 < sz := by decide
  have nn : ∀ l : List W, fIsN (.lst l) .non = some (.imm (.bl false)) := fun l => rfl
  have s0 : chain_run_s0 ⟨[.val L, .val (.tup (numsW cs)), .non, .non, .non, .non], G⟩ = some (.ok .nx, ⟨[.val L, .val (.tup (numsW cs)), .own (.lst (numsW keys)), .non, .non, .non], G⟩) := by
    simp [chain_run_s0, hck]
  have s1 : chain_run_s1 ⟨[.val L, .val (.tup (numsW cs)), .own (.lst (numsW keys)), .non, .non, .non], G⟩ = some (.ok .nx, ⟨[.val L, .val (.tup (numsW cs)), .own (.lst (numsW keys)), .non, .non, .non], G⟩) := by
    simp [chain_run_s1, nn]
  have s2 : chain_run_s2 ⟨[.val L, .val (.tup (numsW cs)), .own (.lst (numsW keys)), .non, .non, .non], G⟩ = some (.ok .nx, ⟨[.val L, .val (.tup (numsW cs)), .own (.lst (numsW keys)), .own (.lst []), .non, .non], G⟩) := by
    simp [chain_run_s2]
  have s3 : chain_run_s3 ⟨[.val L, .val (.tup (numsW cs)), .own (.lst (numsW keys)), .own (.lst []), .non, .non], G⟩ = some (.ok .nx, ⟨[.val L, .val (.tup (numsW cs)), .own (.lst (numsW keys)), .own (.lst []), .val (.int (e : Nat)), .non], G⟩) := by
    simp [chain_run_s3, ln, lk, ve]
  have s4 : chain_run_s4 ⟨[.val L, .val (.tup (numsW cs)), .own (.lst (numsW keys)), .own (.lst []), .val (.int (e : Nat)), .non], G⟩ = some (.ok .nx, ⟨[.val L, .val (.tup (numsW cs)), .own (.lst (numsW keys)), .own (.lst ((headS cs keys e).map stepW)), .val (.int (e : Nat)), .non], G⟩) := by
    have : e = 0 ∨ e = 1 := by omega
    rcases this with rfl | rfl
    · simp [chain_run_s4, fEqD_i, headS]
    · have f : fAppend (.lst []) [.tup [.str "write", .int (cs.getD 0 0 : Nat), .int (keys.getD 0 0 : Nat), .int 1]] = some (.non, .lst ((headS cs keys 1).map stepW)) := by
        simp [fAppend, z0, headS, wrS_w]
      generalize (headS cs keys 1).map stepW = M0 at f ⊢
      generalize cs.getD 0 0 = c0 at a1 f
      generalize keys.getD 0 0 = k0 at a2 f
      generalize numsW cs = C at a1 ⊢
      generalize numsW keys = KK at a2 ⊢
      simp [chain_run_s4, chain_run_s4a_t0, chain_run_s4a_s0, fEqD_i, a1, a2, f, z4]
  unfold chain_run_t0
  rw [seqt s0]
  unfold chain_run_t1
  rw [seqt s1]
  unfold chain_run_t2
  rw [seqt s2]
  unfold chain_run_t3
  rw [seqt s3]
  unfold chain_run_t4
  rw [seqt s4]
  unfold chain_run_t5
  rw [seqt lp]
  unfold runS
  rw [eq]
  simp [chain_run_t6, chain_run_s6, outF]
theorem x_run_bad (L C : W) (G : List Cell) (hck : m_chain_keys [L, C] G = some (.ok (.val .non), G)) : m_chain_run [L, C] G = some (.error ⟨"NoChain", [("chain", C)]⟩, G) := by
  unfold m_chain_run
  rw [fnM_o, chain_run_cut]
  show outF (chain_run_t0 ⟨[.val L, .val C, .non, .non, .non, .non], G⟩) = _
  have nn : fIsN .non .non = some (.imm (.bl true)) := rfl
  simp [chain_run_t0, chain_run_s0, hck, chain_run_t1, chain_run_s1, nn, outF]
end Z
set_option linter.all false
set_option maxRecDepth 100000
set_option maxHeartbeats 4000000
namespace Z
open PySem PySem.Spec PyProof.Rows L2
theorem addTup {a b : List W} (h : a.length + b.length ≤ sz) (s : S) : liftO (fAdd (.tup a) (.tup b)) s = some (.ok (.val (.tup (a ++ b))), s) := by
  have e : fAdd (.tup a) (.tup b) = fAddT (.tup a) (.tup b) := by
    unfold fAdd orf
    rw [show fI (fun i j => i + j) (.tup a) (.tup b) = none from rfl]
    simp only []
    rw [show fAddS (.tup a) (.tup b) = none from rfl]
    simp only []
    rw [show fAddL (.tup a) (.tup b) = none from rfl]
  rw [e]
  cases a with
  | nil =>
    have : fAddT (.tup []) (.tup b) = some (.imm (.tup b)) := if_pos (by simpa using h)
    rw [this]
    rfl
  | cons x a =>
    cases b with
    | nil =>
      have : fAddT (.tup (x :: a)) (.tup []) = some (.imm (.tup (x :: a))) := if_pos (by simpa using h)
      rw [this, List.append_nil]
      rfl
    | cons y b =>
      have : fAddT (.tup (x :: a)) (.tup (y :: b)) = some (.newt (x :: a ++ y :: b)) := if_pos h
      rw [this]
      rfl
theorem slT {ws : List W} {lo hi : Option Int} (s : S) : liftO (fSl (.tup ws) lo hi) s = some (.ok (.val (.tup (cutW ws lo hi))), s) := by
  show liftO (if HT.sIx ws.length 0 lo = 0 ∧ HT.sIx ws.length ws.length hi = ws.length then some (.imm (.tup ws)) else some (.newt (cutW ws lo hi))) s = _
  by_cases q : HT.sIx ws.length 0 lo = 0 ∧ HT.sIx ws.length ws.length hi = ws.length
  · rw [if_pos q]
    have : cutW ws lo hi = ws := by
      unfold cutW
      rw [q.1, q.2]
      simp
    rw [this]
    rfl
  · rw [if_neg q]
    rfl
theorem cut_from {α : Type} (ws : List α) (k : Nat) : cutW ws (some (k : Int)) none = ws.drop k := by
  unfold cutW
  rw [HT.sIx_nat, HT.sIx_none]
  rcases Nat.le_total k ws.length with h | h
  · rw [Nat.min_eq_left h]
    exact List.take_of_length_le (by simp)
  · rw [Nat.min_eq_right h, List.drop_eq_nil_of_le (Nat.le_refl _), List.drop_eq_nil_of_le h]
    simp
theorem cut_last {α : Type} (ws : List α) : cutW ws none (some (-1)) = ws.dropLast := by
  unfold cutW
  have : HT.sIx ws.length ws.length (some (-1)) = ws.length - 1 := by
    show (if (-1 : Int) < 0 then ((-1 : Int) + (ws.length : Int)).toNat else min (-1 : Int).toNat ws.length) = _
    rw [if_pos (show (-1 : Int) < 0 by decide)]
    omega
  rw [this, HT.sIx_none, List.drop_zero, Nat.sub_zero, List.dropLast_eq_take]
theorem nums_int (l : List Nat) : numsW l = (l.map fun (c : Nat) => (c : Int)).map W.int := by
  unfold numsW
  rw [List.map_map]
  rfl
theorem fEqD_nums (l : List Nat) : fEqD (.lst (numsW l)) (.lst []) = some (.imm (.bl (decide (l = [])))) := by
  have := fEqD_emb (emb_lst emb_int) (by decide) (l.map fun (c : Nat) => (c : Int)) []
  rw [nums_int]
  refine Eq.trans this ?_
  congr 3
  rw [decide_eq_decide]
  simp
theorem fNeD_nums (l : List Nat) : fNeD (.lst (numsW l)) (.lst []) = some (.imm (.bl (!decide (l = [])))) := by
  have := fNeD_emb (emb_lst emb_int) (by decide) (l.map fun (c : Nat) => (c : Int)) []
  rw [nums_int]
  refine Eq.trans this ?_
  congr 3
  rw [← decide_not, decide_eq_decide]
  simp
theorem numsW_app (a b : List Nat) : numsW (a ++ b) = numsW a ++ numsW b := by simp [numsW]
theorem numsW_drop (l : List Nat) (k : Nat) : (numsW l).drop k = numsW (l.drop k) := by simp [numsW, List.map_drop]
theorem numsW_dropLast (l : List Nat) : (numsW l).dropLast = numsW l.dropLast := by simp [numsW, List.map_dropLast]
theorem row_keys {rs : List (List Int)} (hc : ∀ xs ∈ rs, canon xs = xs) {a : Nat} (h : a < rs.length) (q : Int → Bool) : (rs[a].filter q).map W.int = numsW (fk fun k => rowB rs a k && q (k : Int)) := by
  have e := hc _ (List.getElem_mem h)
  unfold rowB
  rw [getD_at h]
  generalize rs[a] = xs at e ⊢
  rw [← e]
  unfold canon
  rw [List.filter_map, List.filter_filter]
  unfold numsW fk
  rw [List.map_map]
  have e2 : ((List.range 8).filter fun (k : Nat) => (q ∘ fun (k : Nat) => (k : Int)) k && decide ((k : Int) ∈ xs)) = (List.range 8).filter fun (k : Nat) => decide ((k : Int) ∈ canon xs) && q (k : Int) := by
    rw [e]
    refine List.filter_congr fun k _ => ?_
    show (q (k : Int) && _) = _
    rw [Bool.and_comm]
  refine Eq.trans (congrArg _ e2) ?_
  rfl
theorem fAny_bls {γ : Type} (f : γ → Bool) (xs : List γ) : fAny [.lst (xs.map fun x => W.bl (f x))] = some (.imm (.bl (xs.any f))) := by
  have : blsOf (xs.map fun x => W.bl (f x)) = some (xs.map f) := by
    induction xs with
    | nil => rfl
    | cons x xs ih => simp [blsOf, ih]
  unfold fAny
  simp [this]
theorem x_keys_of (rs : List (List Int)) (hc : ∀ xs ∈ rs, canon xs = xs) (a b : Nat) (ha : a < rs.length) (hb : b < rs.length) (l : List Nat) (hl : ∀ c ∈ l, c < rs.length) (hz : l.length ≤ 1000) (G : List Cell) :
    m__law_keys_of [.lst (rs.map lstI), .int (a : Nat), .int (b : Nat), .tup (numsW l)] G = some (.ok (.own (.lst (numsW (fk (keyB rs a b l))))), G) := by
  unfold m__law_keys_of
  rw [fnM_e]
  have at_ : ∀ c : Nat, c < rs.length → atI (rs.map lstI) (c : Int) = some (lstI (rs.getD c [])) := fun c h => by
    rw [atI_nat (v := lstI rs[c]) (by simp [h]), getD_at h]
  have aa := at_ a ha
  have ab := at_ b hb
  have fi : ∀ (k : Int) xs, fIn false (.int k) (lstI xs) = some (.imm (.bl (decide (k ∈ xs) != false))) := fun k xs => fIn_lI false k xs
  let q : Int → Bool := fun k => decide (k ∈ rs.getD b []) && !(l.any fun c => decide (k ∈ rs.getD c []))
  have inner : ∀ k : Int, lcL [5] (tgN 5) mYes (mBin (fIn false) (mName 4) (mBin fIx (mName 0) (mName 5))) ⟨numsW l, none⟩ (numsW l) [] ⟨[.val (.lst (rs.map lstI)), .val (.int (a : Nat)), .val (.int (b : Nat)), .val (.tup (numsW l)), .val (.int k), .non], G⟩ =
      some (.ok (.own (.lst (l.map fun c => W.bl (decide (k ∈ rs.getD c []))))), ⟨[.val (.lst (rs.map lstI)), .val (.int (a : Nat)), .val (.int (b : Nat)), .val (.tup (numsW l)), .val (.int k), .non], G⟩) := fun k => by
    have key := lc_all (s := ⟨[.val (.lst (rs.map lstI)), .val (.int (a : Nat)), .val (.int (b : Nat)), .val (.tup (numsW l)), .val (.int k), .non], G⟩) (k := ⟨numsW l, none⟩) (vs := [5]) (t := tgN 5) (tt := mYes) (me := mBin (fIn false) (mName 4) (mBin fIx (mName 0) (mName 5))) (e := fun (c : Nat) => W.int (c : Int)) trivial
      (fun c => W.bl (decide (k ∈ rs.getD c []))) l [] (fun c m => ⟨⟨[.val (.lst (rs.map lstI)), .val (.int (a : Nat)), .val (.int (b : Nat)), .val (.tup (numsW l)), .val (.int k), .val (.int (c : Nat))], G⟩, by simp, ⟨[.val (.lst (rs.map lstI)), .val (.int (a : Nat)), .val (.int (b : Nat)), .val (.tup (numsW l)), .val (.int k), .val (.int (c : Nat))], G⟩, by
        have ac := at_ c (hl c m)
        generalize rs.getD c [] = xs at ac ⊢
        simp [ac, fi], by simp⟩) (by show 0 + _ ≤ 16777216; omega)
    rw [List.nil_append] at key
    exact key
  have outer : lcL [4] (tgN 4) (mAnd (mB (mBin (fIn false) (mName 4) (mBin fIx (mName 0) (mName 2)))) (mNot (mB (mCB fAny (mCons (mLc [5] (mIter (mName 3)) (tgN 5) mYes (mBin (fIn false) (mName 4) (mBin fIx (mName 0) (mName 5)))) mNil))))) (mName 4) ⟨(rs.getD a []).map W.int, none⟩ ((rs.getD a []).map W.int) [] ⟨[.val (.lst (rs.map lstI)), .val (.int (a : Nat)), .val (.int (b : Nat)), .val (.tup (numsW l)), .non, .non], G⟩ =
      some (.ok (.own (.lst (((rs.getD a []).filter q).map W.int))), ⟨[.val (.lst (rs.map lstI)), .val (.int (a : Nat)), .val (.int (b : Nat)), .val (.tup (numsW l)), .non, .non], G⟩) := by
    have key := lc_pure (s := ⟨[.val (.lst (rs.map lstI)), .val (.int (a : Nat)), .val (.int (b : Nat)), .val (.tup (numsW l)), .non, .non], G⟩) (k := ⟨(rs.getD a []).map W.int, none⟩) (vs := [4]) (t := tgN 4) (tt := mAnd (mB (mBin (fIn false) (mName 4) (mBin fIx (mName 0) (mName 2)))) (mNot (mB (mCB fAny (mCons (mLc [5] (mIter (mName 3)) (tgN 5) mYes (mBin (fIn false) (mName 4) (mBin fIx (mName 0) (mName 5)))) mNil))))) (me := mName 4) (e := W.int) trivial
      q W.int (rs.getD a []) [] (fun k m => ⟨⟨[.val (.lst (rs.map lstI)), .val (.int (a : Nat)), .val (.int (b : Nat)), .val (.tup (numsW l)), .val (.int k), .non], G⟩, by
        have an := fAny_bls (fun c => decide (k ∈ rs.getD c [])) l
        have iner := inner k
        have wk : ∀ s : S, walkOf s (.tup (numsW l)) = some ⟨numsW l, none⟩ := fun _ => rfl
        show _ = some ((Except.ok (decide (k ∈ rs.getD b []) && !(l.any fun c => decide (k ∈ rs.getD c []))) : Except Ex Bool), _)
        generalize (l.map fun c => W.bl (decide (k ∈ rs.getD c []))) = B at an iner
        generalize (l.any fun c => decide (k ∈ rs.getD c [])) = bb at an ⊢
        generalize rs.getD b [] = xb at ab ⊢
        by_cases hk : k ∈ xb
        · simp [ab, fi, hk, iner, an]
        · simp [ab, fi, hk], fun _ => ⟨⟨[.val (.lst (rs.map lstI)), .val (.int (a : Nat)), .val (.int (b : Nat)), .val (.tup (numsW l)), .val (.int k), .non], G⟩, by simp, by simp⟩, fun _ => by simp⟩) (by
        have := canon_len (rs.getD a [])
        rw [getD_at ha, hc _ (List.getElem_mem ha)] at this
        rw [getD_at ha]
        show 0 + _ ≤ 16777216; omega)
    rw [List.nil_append] at key
    exact key
  have fin : ((rs.getD a []).filter q).map W.int = numsW (fk (keyB rs a b l)) := by
    rw [getD_at ha, row_keys hc ha]
    congr 2
    funext k
    show (_ && (_ && _)) = _
    unfold keyB unB rowB
    rw [Bool.and_assoc]
  rw [fin] at outer
  have wl : ∀ s : S, walkOf s (lstI (rs.getD a [])) = some ⟨(rs.getD a []).map W.int, none⟩ := fun _ => rfl
  generalize rs.getD a [] = xa at aa outer wl
  simp [b__law_keys_of, aa, outer]
end Z
set_option linter.all false
set_option maxRecDepth 100000
set_option maxHeartbeats 4000000
namespace Z
open PySem PySem.Spec PyProof.Rows L2
section
variable (rs : List (List Int)) (ps : List Nat) (t : Nat)
theorem nums_last : atI (numsW (ps ++ [t])) (-1) = some (.int (t : Nat)) := by
  refine atI_last (by simp [numsW]) ?_
  simp [numsW]
theorem nums_path : cutW (numsW (ps ++ [t])) none (some (-1)) = numsW ps := by
  rw [cut_last, numsW_dropLast]
  simp
theorem nums_two : cutW (numsW ps) (some 2) none = numsW (ps.drop 2) := by
  have := cut_from (numsW ps) 2
  rw [numsW_drop] at this
  exact this
theorem nums_end (h : 1 ≤ ps.length) : atI (numsW ps) (-1) = some (.int (ps.getD (ps.length - 1) 0 : Nat)) := by
  refine atI_last (by intro z; have := congrArg List.length z; rw [numsW_len] at this; have h0 : ([] : List W).length = 0 := rfl; omega) ?_
  rw [numsW_len]
  unfold numsW
  rw [List.getElem?_map, List.getElem?_eq_getElem (by omega), getD_at (by omega)]
  rfl
theorem getD_lt (hps : ∀ c ∈ ps, c < rs.length) {i : Nat} (h : i < ps.length) : ps.getD i 0 < rs.length := by
  rw [getD_at h]
  exact hps _ (List.getElem_mem h)
theorem drop_lt (hps : ∀ c ∈ ps, c < rs.length) (ht : t < rs.length) (k : Nat) : ∀ c ∈ ps.drop k ++ [t], c < rs.length := fun c m => by
  rcases List.mem_append.mp m with m | m
  · exact hps c (List.mem_of_mem_drop m)
  · rw [List.mem_singleton.mp m]; exact ht
theorem mids_all {f : (Nat → Bool) → Bool} : (midsB rs ps t).all f = true ↔ ∀ j, j < ps.length - 2 → f (midB rs ps t (j + 1)) = true := by
  unfold midsB
  simp [List.all_eq_true]
theorem x_mid (hc : ∀ xs ∈ rs, canon xs = xs) (hl : ps.length ≤ 50) (hps : ∀ c ∈ ps, c < rs.length) (ht : t < rs.length) {i : Nat} (hi : i + 1 < ps.length) (G : List Cell) :
    m__law_keys_of [.lst (rs.map lstI), .int (ps.getD i 0 : Nat), .int (ps.getD (i + 1) 0 : Nat), .tup (numsW (ps.drop (i + 2)) ++ [.int (t : Nat)])] G = some (.ok (.own (.lst (numsW (fk (midB rs ps t i))))), G) := by
  have := x_keys_of rs hc (ps.getD i 0) (ps.getD (i + 1) 0) (getD_lt rs ps hps (by omega)) (getD_lt rs ps hps hi) (ps.drop (i + 2) ++ [t]) (drop_lt rs ps t hps ht (i + 2)) (by rw [List.length_append, List.length_drop]; simp; omega) G
  rw [numsW_app] at this
  exact this
theorem mid_add {k : Nat} (hl : ps.length ≤ 50) (s : S) : liftO (fAdd (.tup (numsW (ps.drop k))) (.tup [.int (t : Nat)])) s = some (.ok (.val (.tup (numsW (ps.drop k) ++ [.int (t : Nat)]))), s) := addTup (by
  rw [numsW_len, List.length_drop]
  show _ + 1 ≤ 16777216
  omega) s
theorem ic_loop (hc : ∀ xs ∈ rs, canon xs = xs) (h2 : 2 ≤ ps.length) (hl : ps.length ≤ 50) (hps : ∀ c ∈ ps, c < rs.length) (ht : t < rs.length) (G : List Cell) : ∃ x4, _law_is_chain_s3 ⟨[.val (.lst (rs.map lstI)), .val (.tup (numsW (ps ++ [t]))), .val (.tup (numsW ps)), .val (.int (t : Nat)), .non], G⟩ =
    some (if ((midsB rs ps t).all fun f => !decide (fk f = [])) = true then .ok .nx else .ok (.rt (.val (.bl false))), ⟨[.val (.lst (rs.map lstI)), .val (.tup (numsW (ps ++ [t]))), .val (.tup (numsW ps)), .val (.int (t : Nat)), x4], G⟩) := by
  have ln : fLen [.tup (numsW ps)] = some (.imm (.int ps.length)) := by rw [fLen_t, numsW_len]
  have rk : Rk 1 ∧ Rk ((ps.length : Int) - 1) := by
    constructor
    · exact rk_small (by omega)
    · exact rk_small (by omega)
  have tn : ((ps.length : Int) - 1 - 1).toNat = ps.length - 2 := by omega
  have ma := mids_all rs ps t (f := fun f => !decide (fk f = []))
  generalize ((midsB rs ps t).all fun f => !decide (fk f = [])) = bb at ma ⊢
  simp [_law_is_chain_s3, ln, rk, tn]
  generalize hF : forL _ _ _ _ = F
  obtain ⟨r, s', rfl, x4, rfl, rfl⟩ := forL_exitAt hF (R := fun r s => ∃ x4, s = ⟨[.val (.lst (rs.map lstI)), .val (.tup (numsW (ps ++ [t]))), .val (.tup (numsW ps)), .val (.int (t : Nat)), x4], G⟩ ∧ r = if bb = true then .ok .nx else .ok (.rt (.val (.bl false))))
    (fun i s => ∃ x4, s = ⟨[.val (.lst (rs.map lstI)), .val (.tup (numsW (ps ++ [t]))), .val (.tup (numsW ps)), .val (.int (t : Nat)), x4], G⟩ ∧ ∀ j, j < i → fk (midB rs ps t (j + 1)) ≠ []) ⟨.non, rfl, fun j h => absurd h (by omega)⟩ (by
      rintro s ⟨x4, rfl, h⟩
      refine ⟨x4, rfl, ?_⟩
      rw [if_pos]
      refine ma.mpr fun j hj => ?_
      have := h j (by simpa [rngW] using hj)
      simpa using this) (by
    rintro i hi s ⟨x4, rfl, h⟩
    have hi : i < ps.length - 2 := by simpa [rngW] using hi
    have ei : (rngW 1 (ps.length - 2))[i]'(by simpa [rngW] using hi) = W.int ((i + 1 : Nat) : Int) := by
      simp [rngW]
      omega
    rw [ei]
    have a1 := numsW_at (l := ps) (i := i + 1) (by omega)
    have a2 : atI (numsW ps) (((i + 1 : Nat) : Int) + 1) = _ := numsW_at (l := ps) (i := i + 2) (by omega)
    have sl : cutW (numsW ps) (some (((i + 1 : Nat) : Int) + 2)) none = numsW (ps.drop (i + 3)) := by
      have := cut_from (numsW ps) (i + 3)
      rw [numsW_drop] at this
      exact this
    have sl : ∀ s, liftO (fSl (.tup (numsW ps)) (some (((i + 1 : Nat) : Int) + 2)) none) s = some (.ok (.val (.tup (numsW (ps.drop (i + 3))))), s) := fun s => by
      rw [slT, sl]
    have k := x_mid rs ps t hc hl hps ht (i := i + 1) (by omega) G
    have k : m__law_keys_of [.lst (rs.map lstI), .int (ps.getD (i + 1) 0 : Nat), .int (ps.getD (i + 2) 0 : Nat), .tup (numsW (ps.drop (i + 3)) ++ [.int (t : Nat)])] G = _ := k
    have ad := mid_add ps t (k := i + 3) hl
    have e1 := fEqD_nums (fk (midB rs ps t (i + 1)))
    have z1 : 1 ≤ sz := by decide
    generalize hN : ((i + 1 : Nat) : Int) = N at a1 a2 sl ⊢
    generalize numsW (ps.drop (i + 3)) = D at sl ad k
    generalize (D ++ [W.int (t : Nat)]) = D2 at ad k
    generalize ps.getD (i + 1) 0 = p0 at a1 k
    generalize ps.getD (i + 2) 0 = p1 at a2 k
    generalize numsW (fk (midB rs ps t (i + 1))) = K at k e1
    by_cases q : fk (midB rs ps t (i + 1)) = []
    · refine .inr (.inr (.inl ⟨.val (.bl false), ⟨[.val (.lst (rs.map lstI)), .val (.tup (numsW (ps ++ [t]))), .val (.tup (numsW ps)), .val (.int (t : Nat)), .val (.int N)], G⟩, ?_, _, rfl, ?_⟩))
      · simp [_law_is_chain_s3b_t0, _law_is_chain_s3b_s0, a1, a2, sl, ad, k, e1, q, z1]
      · rw [if_neg]
        intro z
        have := ma.mp z i hi
        simp [q] at this
    · refine .inl ⟨⟨[.val (.lst (rs.map lstI)), .val (.tup (numsW (ps ++ [t]))), .val (.tup (numsW ps)), .val (.int (t : Nat)), .val (.int N)], G⟩, .inl ?_, _, rfl, fun j hj => ?_⟩
      · simp [_law_is_chain_s3b_t0, _law_is_chain_s3b_s0, a1, a2, sl, ad, k, e1, q, z1]
      · rcases Nat.lt_succ_iff_lt_or_eq.mp hj with z | rfl
        · exact h j z
        · exact q)
  exact ⟨x4, rfl⟩
theorem x_is_chain (hc : ∀ xs ∈ rs, canon xs = xs) (h2 : 2 ≤ ps.length) (hl : ps.length ≤ 50) (hps : ∀ c ∈ ps, c < rs.length) (ht : t < rs.length) (G : List Cell) :
    m__law_is_chain [.lst (rs.map lstI), .tup (numsW (ps ++ [t]))] G = some (.ok (.val (.bl (isChain rs ps t))), G) := by
  unfold m__law_is_chain
  rw [fnM_o, _law_is_chain_cut]
  show outF (_law_is_chain_t0 ⟨[.val (.lst (rs.map lstI)), .val (.tup (numsW (ps ++ [t]))), .non, .non, .non], G⟩) = _
  have sl : ∀ (ws : List W) lo hi r, liftO (fSl (.tup ws) lo hi) ⟨r, G⟩ = some (.ok (.val (.tup (cutW ws lo hi))), ⟨r, G⟩) := fun ws lo hi r => slT _
  have np := nums_path ps t
  have nl := nums_last ps t
  have n2 := nums_two ps
  have ne := nums_end ps (by omega)
  have a0 : atI (numsW ps) 0 = _ := numsW_at (l := ps) (i := 0) (by omega)
  have a1 : atI (numsW ps) 1 = _ := numsW_at (l := ps) (i := 1) (by omega)
  have g := fun {i : Nat} (h : i < ps.length) => getD_lt rs ps hps h
  have dz : ∀ k, (ps.drop k).length ≤ 1000 := fun k => by rw [List.length_drop]; omega
  have k1 := x_keys_of rs hc (ps.getD 0 0) t (g (by omega)) ht (ps.drop 2) (fun c m => hps c (List.mem_of_mem_drop m)) (dz 2) G
  have k2 := x_keys_of rs hc (ps.getD 0 0) (ps.getD 1 0) (g (by omega)) (g (by omega)) (ps.drop 2) (fun c m => hps c (List.mem_of_mem_drop m)) (dz 2) G
  have k3 := x_keys_of rs hc (ps.getD (ps.length - 1) 0) t (g (by omega)) ht [] (fun c m => by simp at m) (by simp) G
  have k3 : m__law_keys_of [.lst (rs.map lstI), .int (ps.getD (ps.length - 1) 0 : Nat), .int (t : Nat), .tup []] G = some (.ok (.own (.lst (numsW (fk (lastB rs ps t))))), G) := k3
  have k1 : m__law_keys_of [.lst (rs.map lstI), .int (ps.getD 0 0 : Nat), .int (t : Nat), .tup (numsW (ps.drop 2))] G = some (.ok (.own (.lst (numsW (fk (earlyB rs ps t))))), G) := k1
  have k2 : m__law_keys_of [.lst (rs.map lstI), .int (ps.getD 0 0 : Nat), .int (ps.getD 1 0 : Nat), .tup (numsW (ps.drop 2))] G = some (.ok (.own (.lst (numsW (fk (firstB rs ps))))), G) := k2
  have s0 : _law_is_chain_s0 ⟨[.val (.lst (rs.map lstI)), .val (.tup (numsW (ps ++ [t]))), .non, .non, .non], G⟩ = some (.ok .nx, ⟨[.val (.lst (rs.map lstI)), .val (.tup (numsW (ps ++ [t]))), .val (.tup (numsW ps)), .non, .non], G⟩) := by
    simp [_law_is_chain_s0, sl, np]
  have s1 : _law_is_chain_s1 ⟨[.val (.lst (rs.map lstI)), .val (.tup (numsW (ps ++ [t]))), .val (.tup (numsW ps)), .non, .non], G⟩ = some (.ok .nx, ⟨[.val (.lst (rs.map lstI)), .val (.tup (numsW (ps ++ [t]))), .val (.tup (numsW ps)), .val (.int (t : Nat)), .non], G⟩) := by
    simp [_law_is_chain_s1, nl]
  have e1 := fEqD_nums (fk (earlyB rs ps t))
  have e2 := fEqD_nums (fk (firstB rs ps))
  have e3 := fNeD_nums (fk (lastB rs ps t))
  have tl : ∀ x4 : SV, _law_is_chain_t4 ⟨[.val (.lst (rs.map lstI)), .val (.tup (numsW (ps ++ [t]))), .val (.tup (numsW ps)), .val (.int (t : Nat)), x4], G⟩ = some (.ok (.rt (.val (.bl (!decide (fk (lastB rs ps t) = []))))), ⟨[.val (.lst (rs.map lstI)), .val (.tup (numsW (ps ++ [t]))), .val (.tup (numsW ps)), .val (.int (t : Nat)), x4], G⟩) := fun x4 => by
    generalize numsW (fk (lastB rs ps t)) = K3 at k3 e3
    generalize ps.getD (ps.length - 1) 0 = pl at k3 ne
    simp [_law_is_chain_t4, _law_is_chain_s4, ne, k3, e3]
  unfold _law_is_chain_t0
  rw [seqt s0]
  unfold _law_is_chain_t1
  rw [seqt s1]
  unfold isChain
  rw [List.all_append]
  by_cases q1 : fk (earlyB rs ps t) = []
  · generalize numsW (fk (earlyB rs ps t)) = K1 at k1 e1
    generalize ps.getD 0 0 = p0 at a0 k1
    simp [_law_is_chain_t2, _law_is_chain_s2, a0, sl, n2, k1, e1, q1, outF]
  by_cases q2 : fk (firstB rs ps) = []
  · generalize numsW (fk (earlyB rs ps t)) = K1 at k1 e1
    generalize numsW (fk (firstB rs ps)) = K2 at k2 e2
    generalize ps.getD 0 0 = p0 at a0 k1 k2
    generalize ps.getD 1 0 = p1 at a1 k2
    simp [_law_is_chain_t2, _law_is_chain_s2, a0, a1, sl, n2, k1, e1, q1, k2, e2, q2, outF]
  have s2 : _law_is_chain_s2 ⟨[.val (.lst (rs.map lstI)), .val (.tup (numsW (ps ++ [t]))), .val (.tup (numsW ps)), .val (.int (t : Nat)), .non], G⟩ = some (.ok .nx, ⟨[.val (.lst (rs.map lstI)), .val (.tup (numsW (ps ++ [t]))), .val (.tup (numsW ps)), .val (.int (t : Nat)), .non], G⟩) := by
    generalize numsW (fk (earlyB rs ps t)) = K1 at k1 e1
    generalize numsW (fk (firstB rs ps)) = K2 at k2 e2
    generalize ps.getD 0 0 = p0 at a0 k1 k2
    generalize ps.getD 1 0 = p1 at a1 k2
    simp [_law_is_chain_s2, a0, a1, sl, n2, k1, e1, q1, k2, e2, q2]
  unfold _law_is_chain_t2
  rw [seqt s2]
  obtain ⟨x4, e⟩ := ic_loop rs ps t hc h2 hl hps ht G
  unfold _law_is_chain_t3
  by_cases q3 : ((midsB rs ps t).all fun f => !decide (fk f = [])) = true
  · rw [if_pos q3] at e
    rw [seqt e, tl x4, q3]
    simp [outF, q1, q2]
  · rw [if_neg q3] at e
    have q3 : ((midsB rs ps t).all fun f => !decide (fk f = [])) = false := by simpa using q3
    rw [q3]
    unfold mSeq
    simp [bnd, e, outF, q1, q2]
end
end Z
set_option linter.all false
set_option maxRecDepth 100000
set_option maxHeartbeats 4000000
namespace Z
open PySem PySem.Spec PyProof.Rows L2
theorem fAdd_ls {a b : List W} (h : a.length + b.length ≤ sz) : fAdd (.lst a) (.lst b) = some (.newl (a ++ b)) := by
  unfold fAdd orf
  rw [show fI (fun i j => i + j) (.lst a) (.lst b) = none from rfl]
  simp only []
  rw [show fAddS (.lst a) (.lst b) = none from rfl]
  simp only []
  rw [show fAddL (.lst a) (.lst b) = some (.newl (a ++ b)) from by unfold fAddL; simp [h]]
def natT (l : List Nat) : W := .tup (numsW l)
def longer1 (n t : Nat) (p : List Nat) : List (List Nat) := ((List.range n).filter fun c => !decide (c = t) && !decide (c ∈ p)).map fun c => p ++ [c]
theorem longer1_len {n t : Nat} {p : List Nat} : (longer1 n t p).length ≤ n := by
  unfold longer1
  rw [List.length_map]
  exact Nat.le_trans (List.length_filter_le _ _) (by simp)
def longerL (n t : Nat) (ps : List (List Nat)) : List (List Nat) := ps.flatMap (longer1 n t)
theorem longerL_len {n t : Nat} : ∀ {ps : List (List Nat)}, (longerL n t ps).length ≤ n * ps.length
  | [] => by simp [longerL]
  | p :: ps => by
    have h1 := longer1_len (n := n) (t := t) (p := p)
    have h2 := longerL_len (n := n) (t := t) (ps := ps)
    have e : longerL n t (p :: ps) = longer1 n t p ++ longerL n t ps := rfl
    rw [e, List.length_append, List.length_cons, Nat.mul_succ]
    omega
theorem longerL_mem {n t k : Nat} {ps : List (List Nat)} (h : ∀ p ∈ ps, p.length = k ∧ ∀ c ∈ p, c < n) : ∀ p ∈ longerL n t ps, p.length = k + 1 ∧ ∀ c ∈ p, c < n := fun q hq => by
  obtain ⟨p, hp, hq⟩ := List.mem_flatMap.mp hq
  unfold longer1 at hq
  obtain ⟨c, hc, rfl⟩ := List.mem_map.mp hq
  have hcn := List.mem_range.mp (List.mem_filter.mp hc).1
  obtain ⟨h1, h2⟩ := h p hp
  refine ⟨by simp [h1], fun d hd => ?_⟩
  rcases List.mem_append.mp hd with z | z
  · exact h2 d z
  · rw [List.mem_singleton.mp z]; exact hcn
theorem fIn_nums (neg : Bool) (c : Nat) (p : List Nat) : fIn neg (.int (c : Int)) (.tup (numsW p)) = some (.imm (.bl (decide (c ∈ p) != neg))) := by
  rw [nums_int, fIn_tupI]
  congr 4
  rw [decide_eq_decide]
  constructor
  · intro h
    obtain ⟨d, hd, e⟩ := List.mem_map.mp h
    have : d = c := by omega
    exact this ▸ hd
  · exact fun h => List.mem_map.mpr ⟨c, h, rfl⟩
theorem x_longer (n t : Nat) (hn : n ≤ 6) (paths : List (List Nat)) (hp : ∀ p ∈ paths, p.length ≤ 50) (hl : paths.length ≤ 10000) (G : List Cell) :
    m__law_longer [.lst (paths.map natT), .int (n : Nat), .int (t : Nat)] G = some (.ok (.own (.lst ((longerL n t paths).map natT))), G) := by
  unfold m__law_longer
  rw [fnM_o]
  have rk : Rk (n : Int) := rk_nat (by omega)
  simp [b__law_longer]
  generalize hF : forL _ _ _ _ = F
  obtain ⟨s', rfl, x4, x3, rfl, hx⟩ := forL_at hF (fun i s => ∃ x4 x3, s = ⟨[.val (.lst (paths.map natT)), .val (.int (n : Nat)), .val (.int (t : Nat)), .own (.lst (x3.map natT)), x4, .non], G⟩ ∧ x3 = longerL n t (paths.take i)) ⟨.non, [], rfl, rfl⟩ (by
    rintro i hi s ⟨x4, x3, rfl, hx⟩
    have hi : i < paths.length := by simpa using hi
    have ei : (paths.map natT)[i]'(by simpa using hi) = natT paths[i] := by simp
    rw [ei]
    have hpi := hp _ (List.getElem_mem hi)
    have e1 : longerL n t (paths.take (i + 1)) = x3 ++ longer1 n t paths[i] := by
      rw [hx, List.take_succ_eq_append_getElem hi]
      unfold longerL
      rw [List.flatMap_append]
      simp
    have lx : x3.length ≤ 60000 := by
      have h1 := longerL_len (n := n) (t := t) (ps := paths.take i)
      rw [← hx, List.length_take] at h1
      have : n * min i paths.length ≤ 6 * 10000 := Nat.mul_le_mul hn (by omega)
      omega
    refine ⟨⟨[.val (.lst (paths.map natT)), .val (.int (n : Nat)), .val (.int (t : Nat)), .own (.lst ((x3 ++ longer1 n t paths[i]).map natT)), .val (natT paths[i]), .non], G⟩, ?_, _, _, rfl, e1.symm⟩
    generalize paths[i] = p at hpi ⊢
    have lcA : lcL [5] (tgN 5) (mAnd (mB (mBin fNeD (mName 5) (mName 2))) (mB (mBin (fIn true) (mName 5) (mName 4)))) (mBin fAdd (mName 4) (mTup (mCons (mName 5) mNil))) ⟨rngW 0 n, none⟩ (rngW 0 n) [] ⟨[.val (.lst (paths.map natT)), .val (.int (n : Nat)), .val (.int (t : Nat)), .own (.lst (x3.map natT)), .val (natT p), .non], G⟩ =
        some (.ok (.own (.lst ((longer1 n t p).map natT))), ⟨[.val (.lst (paths.map natT)), .val (.int (n : Nat)), .val (.int (t : Nat)), .own (.lst (x3.map natT)), .val (natT p), .non], G⟩) := by
      have key := lc_pure (s := ⟨[.val (.lst (paths.map natT)), .val (.int (n : Nat)), .val (.int (t : Nat)), .own (.lst (x3.map natT)), .val (natT p), .non], G⟩) (k := ⟨rngW 0 n, none⟩) (vs := [5]) (t := tgN 5) (tt := mAnd (mB (mBin fNeD (mName 5) (mName 2))) (mB (mBin (fIn true) (mName 5) (mName 4)))) (me := mBin fAdd (mName 4) (mTup (mCons (mName 5) mNil))) (e := fun (c : Nat) => W.int (0 + (c : Int))) trivial
        (fun c => !decide (c = t) && !decide (c ∈ p)) (fun c => natT (p ++ [c])) (List.range n) [] (fun c _ => by
          refine ⟨⟨[.val (.lst (paths.map natT)), .val (.int (n : Nat)), .val (.int (t : Nat)), .own (.lst (x3.map natT)), .val (natT p), .val (.int (c : Nat))], G⟩, ?_, fun _ => ⟨⟨[.val (.lst (paths.map natT)), .val (.int (n : Nat)), .val (.int (t : Nat)), .own (.lst (x3.map natT)), .val (natT p), .val (.int (c : Nat))], G⟩, ?_, by simp⟩, fun _ => by simp⟩
          · have i1 := fIn_nums true c p
            unfold natT
            by_cases q : c = t
            · subst q
              simp [fNeD_i]
            · have q' : ¬ ((c : Int) = (t : Int)) := by omega
              simp [fNeD_i, i1, q, q']
          · have ad : ∀ s, liftO (fAdd (.tup (numsW p)) (.tup [.int (c : Nat)])) s = some (.ok (.val (natT (p ++ [c]))), s) := fun s => by
              rw [addTup (by rw [numsW_len]; show _ + 1 ≤ 16777216; omega)]
              unfold natT
              rw [numsW_app]
              rfl
            unfold natT at ad ⊢
            have z1 : 1 ≤ sz := by decide
            simp [ad, z1]) (by
          show 0 + _ ≤ 16777216
          simp
          omega)
      unfold longer1
      rw [List.map_map]
      rw [List.nil_append] at key
      exact key
    have ad := fAdd_ls (a := x3.map natT) (b := (longer1 n t p).map natT) (by
      rw [List.length_map, List.length_map]
      have := longer1_len (n := n) (t := t) (p := p)
      show _ ≤ 16777216
      omega)
    rw [List.map_append]
    generalize (longer1 n t p).map natT = L at lcA ad ⊢
    generalize x3.map natT = X at lcA ad ⊢
    simp [rk, lcA, ad])
  rw [hx]
  simp
end Z
set_option linter.all false
set_option maxRecDepth 100000
set_option maxHeartbeats 4000000
namespace Z
open PySem PySem.Spec PyProof.Rows L2
theorem six_pow {i : Nat} (h : i ≤ 4) : 6 ^ i ≤ 1296 := Nat.le_trans (Nat.pow_le_pow_right (by decide) h) (by decide)
theorem six_mul {n i l m : Nat} (hn : n ≤ 6) (hl : l ≤ 6 ^ i) (hm : m ≤ n * l) : m ≤ 6 ^ (i + 1) := by
  have h1 : n * l ≤ 6 * 6 ^ i := Nat.mul_le_mul hn hl
  have h2 : 6 * 6 ^ i = 6 ^ (i + 1) := by rw [Nat.pow_succ, Nat.mul_comm]
  omega
section
variable (rs : List (List Int)) (s t : Nat)
def pathsL (n s t : Nat) : Nat → List (List Nat)
  | 0 => [[s]]
  | i + 1 => longerL n t (pathsL n s t i)
def foundL (rs : List (List Int)) (s t : Nat) (i : Nat) : List (List Nat) := (List.range i).flatMap fun j => ((pathsL rs.length s t (j + 1)).filter fun p => isChain rs p t).map fun p => p ++ [t]
theorem paths_mem {n s t : Nat} (hs : s < n) : ∀ i, ∀ p ∈ pathsL n s t i, p.length = i + 1 ∧ ∀ c ∈ p, c < n
  | 0 => fun p hp => by
    rw [List.mem_singleton.mp hp]
    exact ⟨rfl, fun c hc => by rw [List.mem_singleton.mp hc]; exact hs⟩
  | i + 1 => longerL_mem (paths_mem hs i)
theorem paths_len {n s t : Nat} (hn : n ≤ 6) : ∀ i, (pathsL n s t i).length ≤ 6 ^ i
  | 0 => Nat.le_refl _
  | i + 1 => six_mul hn (paths_len hn i) longerL_len
theorem found_succ (i : Nat) : foundL rs s t (i + 1) = foundL rs s t i ++ ((pathsL rs.length s t (i + 1)).filter fun p => isChain rs p t).map fun p => p ++ [t] := by
  unfold foundL
  rw [List.range_succ, List.flatMap_append]
  simp
theorem found_len (h6 : rs.length ≤ 6) : ∀ i, i ≤ 4 → (foundL rs s t i).length ≤ 1296 * i
  | 0, _ => by simp [foundL]
  | i + 1, h => by
    have := found_len h6 i (by omega)
    rw [found_succ, List.length_append, List.length_map]
    have h1 := List.length_filter_le (fun p => isChain rs p t) (pathsL rs.length s t (i + 1))
    have h2 := paths_len (s := s) (t := t) h6 (i + 1)
    have h3 := six_pow h
    omega
theorem found_mem (hs : s < rs.length) {i : Nat} : ∀ c ∈ foundL rs s t i, ∃ p, c = p ++ [t] ∧ isChain rs p t = true ∧ p.length ≤ i + 1 ∧ 2 ≤ p.length := fun c hc => by
  unfold foundL at hc
  obtain ⟨j, hj, hc⟩ := List.mem_flatMap.mp hc
  obtain ⟨p, hp, rfl⟩ := List.mem_map.mp hc
  obtain ⟨h1, h2⟩ := List.mem_filter.mp hp
  have := (paths_mem (t := t) hs (j + 1) p h1).1
  have := List.mem_range.mp hj
  exact ⟨p, rfl, h2, by omega, by omega⟩
theorem x_chains (hc : ∀ xs ∈ rs, canon xs = xs) (h3 : 2 ≤ rs.length) (h6 : rs.length ≤ 6) (hs : s < rs.length) (ht : t < rs.length) (G : List Cell) :
    m__law_chains [.lst (rs.map lstI), .int (s : Nat), .int (t : Nat)] G = some (.ok (.own (.lst ((foundL rs s t (rs.length - 2)).map natT))), G) := by
  unfold m__law_chains
  rw [fnM_o, _law_chains_cut]
  show outF (_law_chains_t0 ⟨[.val (.lst (rs.map lstI)), .val (.int (s : Nat)), .val (.int (t : Nat)), .non, .non, .non, .non], G⟩) = _
  have z1 : 1 ≤ sz := by decide
  have s0 : _law_chains_s0 ⟨[.val (.lst (rs.map lstI)), .val (.int (s : Nat)), .val (.int (t : Nat)), .non, .non, .non, .non], G⟩ = some (.ok .nx, ⟨[.val (.lst (rs.map lstI)), .val (.int (s : Nat)), .val (.int (t : Nat)), .own (.lst ((foundL rs s t 0).map natT)), .non, .non, .non], G⟩) := by
    simp [_law_chains_s0, foundL]
  have s1 : _law_chains_s1 ⟨[.val (.lst (rs.map lstI)), .val (.int (s : Nat)), .val (.int (t : Nat)), .own (.lst ((foundL rs s t 0).map natT)), .non, .non, .non], G⟩ = some (.ok .nx, ⟨[.val (.lst (rs.map lstI)), .val (.int (s : Nat)), .val (.int (t : Nat)), .own (.lst ((foundL rs s t 0).map natT)), .own (.lst ((pathsL rs.length s t 0).map natT)), .non, .non], G⟩) := by
    have e : (pathsL rs.length s t 0).map natT = [.tup [.int (s : Nat)]] := rfl
    rw [e]
    generalize (foundL rs s t 0).map natT = F0
    simp [_law_chains_s1, z1]
  unfold _law_chains_t0
  rw [seqt s0]
  unfold _law_chains_t1
  rw [seqt s1]
  have s2 : ∃ x4 x5, _law_chains_s2 ⟨[.val (.lst (rs.map lstI)), .val (.int (s : Nat)), .val (.int (t : Nat)), .own (.lst ((foundL rs s t 0).map natT)), .own (.lst ((pathsL rs.length s t 0).map natT)), .non, .non], G⟩ = some (.ok .nx, ⟨[.val (.lst (rs.map lstI)), .val (.int (s : Nat)), .val (.int (t : Nat)), .own (.lst ((foundL rs s t (rs.length - 2)).map natT)), x4, x5, .non], G⟩) := by
    have rk : Rk ((rs.length : Int) - 2) := rk_small (by omega)
    have tn : ((rs.length : Int) - 2).toNat = rs.length - 2 := by omega
    have ln : fLen [.lst (rs.map lstI)] = some (.imm (.int rs.length)) := by simp
    simp [_law_chains_s2, rk, tn]
    generalize hF : forL _ _ _ _ = F
    obtain ⟨s', rfl, x4, x5, rfl, -⟩ := forL_at hF (fun i st => ∃ x4 x5, st = ⟨[.val (.lst (rs.map lstI)), .val (.int (s : Nat)), .val (.int (t : Nat)), .own (.lst ((foundL rs s t i).map natT)), x4, x5, .non], G⟩ ∧ (x4 = .own (.lst ((pathsL rs.length s t i).map natT)) ∨ x4 = .val (.lst ((pathsL rs.length s t i).map natT)))) ⟨_, _, rfl, .inl rfl⟩ (by
      rintro i hi st ⟨x4, x5, rfl, h4⟩
      have hi : i < rs.length - 2 := by simpa [rngW] using hi
      have ei : (rngW 0 (rs.length - 2))[i]'(by simpa [rngW] using hi) = W.int i := by simp [rngW]
      rw [ei]
      have pm := paths_mem (t := t) hs i
      have pl := paths_len (s := s) (t := t) h6 i
      have p6 := six_pow (i := i) (by omega)
      have pm1 := paths_mem (t := t) hs (i + 1)
      have pl1 := paths_len (s := s) (t := t) h6 (i + 1)
      have p61 := six_pow (i := i + 1) (by omega)
      have fl := found_len rs s t h6 i (by omega)
      have lg := x_longer rs.length t h6 (pathsL rs.length s t i) (fun p hp => by rw [(pm p hp).1]; omega) (by omega) G
      have lg : m__law_longer [.lst ((pathsL rs.length s t i).map natT), .int (rs.length : Nat), .int (t : Nat)] G = some (.ok (.own (.lst ((pathsL rs.length s t (i + 1)).map natT))), G) := lg
      have fs := found_succ rs s t i
      generalize pathsL rs.length s t (i + 1) = P1 at pm1 pl1 lg fs ⊢
      have lc := lc_pure (s := ⟨[.val (.lst (rs.map lstI)), .val (.int (s : Nat)), .val (.int (t : Nat)), .own (.lst ((foundL rs s t i).map natT)), .val (.lst (P1.map natT)), .val (.int (i : Nat)), .non], G⟩) (k := ⟨P1.map natT, none⟩) (vs := [6]) (t := tgN 6) (tt := (mB (mCall 2 m__law_is_chain (mCons (mName 0) (mCons (mBin fAdd (mName 6) (mTup (mCons (mName 2) mNil))) mNil))))) (me := (mBin fAdd (mName 6) (mTup (mCons (mName 2) mNil)))) (e := natT) trivial
        (fun p => isChain rs p t) (fun p => natT (p ++ [t])) P1 [] (fun p hp => by
          obtain ⟨h1, h2⟩ := pm1 p hp
          have ad : ∀ s, liftO (fAdd (.tup (numsW p)) (.tup [.int (t : Nat)])) s = some (.ok (.val (.tup (numsW (p ++ [t])))), s) := fun s => by
            rw [addTup (by rw [numsW_len]; show _ + 1 ≤ 16777216; omega), numsW_app]
            rfl
          have ic := x_is_chain rs p t hc (by omega) (by omega) h2 ht G
          refine ⟨⟨[.val (.lst (rs.map lstI)), .val (.int (s : Nat)), .val (.int (t : Nat)), .own (.lst ((foundL rs s t i).map natT)), .val (.lst (P1.map natT)), .val (.int (i : Nat)), .val (natT p)], G⟩, ?_, fun _ => ⟨⟨[.val (.lst (rs.map lstI)), .val (.int (s : Nat)), .val (.int (t : Nat)), .own (.lst ((foundL rs s t i).map natT)), .val (.lst (P1.map natT)), .val (.int (i : Nat)), .val (natT p)], G⟩, ?_, by simp⟩, fun _ => by simp⟩
          · unfold natT
            generalize P1.map (fun l => W.tup (numsW l)) = PP
            simp [ad, z1, ic]
          · unfold natT
            generalize P1.map (fun l => W.tup (numsW l)) = PP
            simp [ad, z1]) (by
          show 0 + _ ≤ 16777216
          omega)
      rw [List.nil_append] at lc
      have ad := fAdd_ls (a := (foundL rs s t i).map natT) (b := (P1.filter fun p => isChain rs p t).map fun p => natT (p ++ [t])) (by
        rw [List.length_map, List.length_map]
        have := List.length_filter_le (fun p => isChain rs p t) P1
        show _ ≤ 16777216
        omega)
      have e2 : (foundL rs s t i).map natT ++ ((P1.filter fun p => isChain rs p t).map fun p => natT (p ++ [t])) = (foundL rs s t (i + 1)).map natT := by
        rw [fs, List.map_append, List.map_map]
        rfl
      rw [e2] at ad
      refine ⟨⟨[.val (.lst (rs.map lstI)), .val (.int (s : Nat)), .val (.int (t : Nat)), .own (.lst ((foundL rs s t (i + 1)).map natT)), .val (.lst (P1.map natT)), .val (.int (i : Nat)), .non], G⟩, ?_, _, _, rfl, .inr rfl⟩
      generalize ((P1.filter fun p => isChain rs p t).map fun p => natT (p ++ [t])) = B at lc ad
      generalize (foundL rs s t i).map natT = A at lc ad ⊢
      generalize (foundL rs s t (i + 1)).map natT = C at ad ⊢
      generalize P1.map natT = PP at lg lc ⊢
      rcases h4 with rfl | rfl
      · simp [_law_chains_s2b_t0, _law_chains_s2b_s0, _law_chains_s2b_t1, _law_chains_s2b_s1, lg, lc, ad]
      · simp [_law_chains_s2b_t0, _law_chains_s2b_s0, _law_chains_s2b_t1, _law_chains_s2b_s1, lg, lc, ad])
    refine ⟨x4, x5, ?_⟩
    simp [rngW]
  obtain ⟨x4, x5, e⟩ := s2
  unfold _law_chains_t2
  rw [seqt e]
  simp [_law_chains_t3, _law_chains_s3, outF]
end
end Z
set_option linter.all false
set_option maxRecDepth 100000
set_option maxHeartbeats 4000000
namespace Z
open PySem PySem.Spec PyProof.Rows L2
theorem fk_filter {f g : Nat → Bool} : (fk f).filter (fun k => decide (k ∈ fk g)) = fk fun k => g k && f k := by
  show List.filter _ (List.filter f (List.range 8)) = _
  rw [List.filter_filter]
  refine List.filter_congr fun k hk => ?_
  have hk := List.mem_range.mp hk
  congr 1
  rw [Bool.eq_iff_iff, decide_eq_true_eq, fk_mem]
  simp [hk]
theorem fk_len (f : Nat → Bool) : (fk f).length ≤ 8 := Nat.le_trans (List.length_filter_le _ _) (by simp)
theorem low_at {f : Nat → Bool} (h : fk f ≠ []) : atI (numsW (fk f)) 0 = some (.int (low f : Nat)) := by
  have : 0 < (fk f).length := List.length_pos_iff.mpr h
  have e := numsW_at (l := fk f) (i := 0) this
  have e2 : (fk f).getD 0 0 = low f := by
    unfold low
    cases fk f <;> rfl
  rw [e2] at e
  exact e
theorem fIn_numsL (neg : Bool) (c : Nat) (p : List Nat) : fIn neg (.int (c : Int)) (.lst (numsW p)) = some (.imm (.bl (decide (c ∈ p) != neg))) := by
  rw [nums_int, fIn_lI]
  congr 4
  rw [decide_eq_decide]
  constructor
  · intro h
    obtain ⟨d, hd, e⟩ := List.mem_map.mp h
    have : d = c := by omega
    exact this ▸ hd
  · exact fun h => List.mem_map.mpr ⟨c, h, rfl⟩
theorem getD_app {l : List Nat} {t i : Nat} (h : i < l.length) : (l ++ [t]).getD i 0 = l.getD i 0 := by
  rw [getD_at h, getD_at (by rw [List.length_append]; omega), List.getElem_append_left h]
theorem fPop0 {x : W} {l : List W} : fPop (.lst (x :: l)) [.int 0] = some (x, .lst l) := by
  show (if -(2 ^ 63) ≤ (0 : Int) ∧ (0 : Int) < 2 ^ 63 then (match ixN (x :: l).length 0 with
    | some j => (match (x :: l)[j]? with
      | some w => some (w, Cell.lst ((x :: l).eraseIdx j))
      | none => none)
    | none => none) else none) = _
  rw [if_pos (by decide)]
  have : ixN (x :: l).length 0 = some 0 := by
    unfold ixN
    rw [if_pos (by decide), if_pos (by simp)]
    rfl
  rw [this]
  rfl
section
variable (rs : List (List Int)) (ps : List Nat) (t : Nat)
abbrev roS (x4 x5 x6 x7 x8 x9 : SV) (G : List Cell) : S := ⟨[.val (.lst (rs.map lstI)), .val (.tup (numsW (ps ++ [t]))), .val (.tup (numsW ps)), .val (.int (t : Nat)), x4, x5, x6, x7, x8, x9, .non], G⟩
def midK (i : Nat) : List Nat := headKeys rs ps t ++ (List.range i).map fun j => low (midB rs ps t (j + 1))
theorem head_len : (headKeys rs ps t).length = if fk (bothB rs ps t) = [] then 2 else 1 := by
  unfold headKeys
  split <;> rfl
theorem midK_len (i : Nat) : (midK rs ps t i).length ≤ 2 + i := by
  unfold midK
  have := head_len rs ps t
  rw [List.length_append, List.length_map, List.length_range]
  split at this <;> omega
theorem ro_loop (hc : ∀ xs ∈ rs, canon xs = xs) (h2 : 2 ≤ ps.length) (hl : ps.length ≤ 50) (hps : ∀ c ∈ ps, c < rs.length) (ht : t < rs.length) (hm : ∀ j, j < ps.length - 2 → fk (midB rs ps t (j + 1)) ≠ []) (x4 x5 x6 : SV) (G : List Cell) : ∃ x8, _law_run_of_s6 (roS rs ps t x4 x5 x6 (.own (.lst (numsW (midK rs ps t 0)))) .non .non G) =
    some (.ok .nx, roS rs ps t x4 x5 x6 (.own (.lst (numsW (midK rs ps t (ps.length - 2))))) x8 .non G) := by
  have ln : fLen [.tup (numsW ps)] = some (.imm (.int ps.length)) := by rw [fLen_t, numsW_len]
  have rk : Rk 1 ∧ Rk ((ps.length : Int) - 1) := ⟨rk_small (by omega), rk_small (by omega)⟩
  have tn : ((ps.length : Int) - 1 - 1).toNat = ps.length - 2 := by omega
  simp [_law_run_of_s6, roS, ln, rk, tn]
  generalize hF : forL _ _ _ _ = F
  obtain ⟨s', rfl, x8, rfl⟩ := forL_at hF (fun i s => ∃ x8, s = roS rs ps t x4 x5 x6 (.own (.lst (numsW (midK rs ps t i)))) x8 .non G) ⟨.non, rfl⟩ (by
    rintro i hi s ⟨x8, rfl⟩
    have hi : i < ps.length - 2 := by simpa [rngW] using hi
    have ei : (rngW 1 (ps.length - 2))[i]'(by simpa [rngW] using hi) = W.int ((i + 1 : Nat) : Int) := by
      simp [rngW]
      omega
    rw [ei]
    have a1 := numsW_at (l := ps) (i := i + 1) (by omega)
    have a2 : atI (numsW ps) (((i + 1 : Nat) : Int) + 1) = _ := numsW_at (l := ps) (i := i + 2) (by omega)
    have sl : cutW (numsW ps) (some (((i + 1 : Nat) : Int) + 2)) none = numsW (ps.drop (i + 3)) := by
      have := cut_from (numsW ps) (i + 3)
      rw [numsW_drop] at this
      exact this
    have sl : ∀ s, liftO (fSl (.tup (numsW ps)) (some (((i + 1 : Nat) : Int) + 2)) none) s = some (.ok (.val (.tup (numsW (ps.drop (i + 3))))), s) := fun s => by
      rw [slT, sl]
    have k := x_mid rs ps t hc hl hps ht (i := i + 1) (by omega) G
    have k : m__law_keys_of [.lst (rs.map lstI), .int (ps.getD (i + 1) 0 : Nat), .int (ps.getD (i + 2) 0 : Nat), .tup (numsW (ps.drop (i + 3)) ++ [.int (t : Nat)])] G = _ := k
    have ad := mid_add ps t (k := i + 3) hl
    have lo := low_at (hm i hi)
    have z1 : 1 ≤ sz := by decide
    have zl : (numsW (midK rs ps t i)).length < sz := by
      have := midK_len rs ps t i
      rw [numsW_len]
      show _ < 16777216
      omega
    have ap : fAppend (.lst (numsW (midK rs ps t i))) [.int (low (midB rs ps t (i + 1)) : Nat)] = some (.non, .lst (numsW (midK rs ps t (i + 1)))) := by
      have e : midK rs ps t (i + 1) = midK rs ps t i ++ [low (midB rs ps t (i + 1))] := by
        unfold midK
        rw [List.range_succ, List.map_append, List.append_assoc]
        rfl
      rw [e, numsW_app]
      unfold fAppend
      exact if_pos zl
    refine ⟨roS rs ps t x4 x5 x6 (.own (.lst (numsW (midK rs ps t (i + 1))))) (.val (.int ((i + 1 : Nat) : Int))) .non G, ?_, _, rfl⟩
    generalize hN : ((i + 1 : Nat) : Int) = N at a1 a2 sl ⊢
    generalize numsW (ps.drop (i + 3)) = D at sl ad k
    generalize (D ++ [W.int (t : Nat)]) = D2 at ad k
    generalize ps.getD (i + 1) 0 = p0 at a1 k
    generalize ps.getD (i + 2) 0 = p1 at a2 k
    generalize low (midB rs ps t (i + 1)) = L at lo ap
    generalize numsW (fk (midB rs ps t (i + 1))) = K at k lo
    generalize numsW (midK rs ps t i) = M at ap ⊢
    generalize numsW (midK rs ps t (i + 1)) = M2 at ap ⊢
    simp [_law_run_of_s6b_t0, _law_run_of_s6b_s0, roS, a1, a2, sl, ad, k, lo, ap, z1])
  refine ⟨x8, ?_⟩
  simp [rngW]
theorem ro_turns (cs keys : List Nat) (e : Nat) (he : e ≤ 1) (bs : List Nat) (hb : decide (bs = []) = decide (e = 1)) (hcs : cs = ps ++ [t]) (hk : keys.length = ps.length + e) (hl : ps.length ≤ 50) (x4 x5 x8 : SV) (G : List Cell) : ∃ x8', _law_run_of_s10 (roS rs ps t x4 x5 (.own (.lst (numsW bs))) (.own (.lst (numsW (keys.drop e)))) x8 (.own (.lst ((headS cs keys e).map stepW))) G) =
    some (.ok .nx, roS rs ps t x4 x5 (.own (.lst (numsW bs))) (.own (.lst (numsW (keys.drop e)))) x8' (.own (.lst ((headS cs keys e ++ (List.range (cs.length - 1)).flatMap (turnS cs keys e)).map stepW))) G) := by
  have ln : fLen [.tup (numsW ps)] = some (.imm (.int ps.length)) := by rw [fLen_t, numsW_len]
  have rk : Rk (ps.length : Int) := rk_nat (by omega)
  have cl : cs.length = ps.length + 1 := by rw [hcs]; simp
  simp [_law_run_of_s10, roS, ln, rk]
  generalize hF : forL _ _ _ _ = F
  obtain ⟨s', rfl, x8', st, rfl, hs⟩ := forL_at hF (fun i s => ∃ x8 st, s = roS rs ps t x4 x5 (.own (.lst (numsW bs))) (.own (.lst (numsW (keys.drop e)))) x8 (.own (.lst (st.map stepW))) G ∧ st = headS cs keys e ++ (List.range i).flatMap (turnS cs keys e)) ⟨x8, headS cs keys e, rfl, by simp⟩ (by
    rintro i hi s ⟨x8, st, rfl, hs⟩
    have hi : i < ps.length := by simpa [rngW] using hi
    have ei : (rngW 0 ps.length)[i]'(by simpa [rngW] using hi) = W.int i := by simp [rngW]
    rw [ei]
    have a1 := numsW_at (l := ps) (i := i) (by omega)
    have a2 : atI (numsW (ps ++ [t])) ((i : Int) + 1) = _ := numsW_at (l := ps ++ [t]) (i := i + 1) (by simp; omega)
    have a3 : atI (numsW (keys.drop e)) (i : Int) = _ := numsW_at (l := keys.drop e) (i := i) (by rw [List.length_drop]; omega)
    have g1 : ps.getD i 0 = cs.getD i 0 := by rw [hcs, getD_app hi]
    have g2 : (keys.drop e).getD i 0 = keys.getD (i + e) 0 := by
      rw [List.getD_eq_getElem?_getD, List.getD_eq_getElem?_getD, List.getElem?_drop, Nat.add_comm]
    rw [g1] at a1
    rw [← hcs] at a2
    rw [g2] at a3
    have fe := fEqD_nums bs
    have sl : st.length ≤ 1 + 2 * i := by
      rw [hs, List.length_append]
      have h1 : (headS cs keys e).length ≤ 1 := by unfold headS; split <;> simp
      have h2 : ((List.range i).flatMap (turnS cs keys e)).length = 2 * i := by
        have : ∀ n, ((List.range n).flatMap (turnS cs keys e)).length = 2 * n := by
          intro n
          induction n with
          | zero => rfl
          | succ n ih => rw [List.range_succ, List.flatMap_append, List.length_append, ih]; simp [turnS]; omega
        exact this i
      omega
    have z1 : st.length < sz := by show _ < 16777216; omega
    have z2 : st.length + 1 < sz := by show _ < 16777216; omega
    have z3 : 3 ≤ sz := by decide
    have z4 : 4 ≤ sz := by decide
    have ve : (if decide (bs = []) = true then (1 : Int) else 0) = (e : Int) := by
      have : e = 0 ∨ e = 1 := by omega
      rw [hb]
      rcases this with rfl | rfl <;> rfl
    have v1 : 1 + (i : Int) + (e : Int) = ((i + e + 1 : Nat) : Int) := by push_cast; omega
    have vi : fInt1 [.bl (decide (bs = []))] = some (.imm (.int (e : Int))) := by
      have : e = 0 ∨ e = 1 := by omega
      rw [hb]
      rcases this with rfl | rfl <;> rfl
    refine ⟨roS rs ps t x4 x5 (.own (.lst (numsW bs))) (.own (.lst (numsW (keys.drop e)))) (.val (.int (i : Nat))) (.own (.lst ((st ++ turnS cs keys e i).map stepW))) G, ?_, _, _, rfl, ?_⟩
    · unfold turnS
      simp only [roS]
      rw [← hcs]
      generalize cs.getD i 0 = c0 at a1 ⊢
      generalize cs.getD (i + 1) 0 = c1 at a2 ⊢
      generalize keys.getD (i + e) 0 = k1 at a3 ⊢
      have f1 : fAppend (.lst (st.map stepW)) [.tup [.str "write", .int (c0 : Int), .int (k1 : Int), .int (1 + (i : Int) + (e : Int))]] = some (.non, .lst ((st ++ [wrS c0 k1 ((i + e + 1 : Nat) : Int)]).map stepW)) := by
        rw [v1]
        simp [fAppend, z1, wrS_w]
      have f2 : fAppend (.lst ((st ++ [wrS c0 k1 ((i + e + 1 : Nat) : Int)]).map stepW)) [.tup [.str "take", .int (c0 : Int), .int (c1 : Int)]] = some (.non, .lst ((st ++ [wrS c0 k1 ((i + e + 1 : Nat) : Int), tkS c0 c1]).map stepW)) := by
        simp [fAppend, z2, tkS_w]
      generalize (st ++ [wrS c0 k1 ((i + e + 1 : Nat) : Int)]).map stepW = M1 at f1 f2
      generalize (st ++ [wrS c0 k1 ((i + e + 1 : Nat) : Int), tkS c0 c1]).map stepW = M2 at f2 ⊢
      generalize st.map stepW = M0 at f1 ⊢
      generalize numsW cs = C at a2 ⊢
      generalize numsW ps = PS at a1 ⊢
      generalize numsW bs = BS at fe ⊢
      generalize decide (bs = []) = bb at fe vi
      generalize numsW (keys.drop e) = KK at a3 ⊢
      simp [_law_run_of_s10b_t0, _law_run_of_s10b_s0, _law_run_of_s10b_t1, _law_run_of_s10b_s1, a1, a2, a3, fe, vi, f1, f2, z3, z4]
    · rw [hs, List.range_succ, List.flatMap_append]
      simp)
  refine ⟨x8', ?_⟩
  rw [hs, cl]
  simp [rngW]
theorem pop9 {x4 x5 x8 : SV} {BB K K2 H : List W} {p0 k0 : Int} {f : Cell → List W → Option (W × Cell)} {G : List Cell} (fe : fEqD (.lst BB) (.lst []) = some (.imm (.bl true))) (a0 : atI (numsW ps) 0 = some (.int p0)) (fp : f (.lst K) [.int 0] = some (.int k0, .lst K2)) (ap : fAppend (.lst []) [.tup [.str "write", .int p0, .int k0, .int 1]] = some (.non, .lst H)) :
    mIf (mB (mBin fEqD (mName 6) (mLst mNil))) (mDrop (mMut .lst fAppend (mName 9) (mCons (mTup (mCons (mC (.str "write")) (mCons (mBin fIx (mName 2) (mC (.int 0))) (mCons (mMut .lst f (mName 7) (mCons (mC (.int 0)) mNil)) (mCons (mC (.int 1)) mNil))))) mNil))) mNext (roS rs ps t x4 x5 (.own (.lst BB)) (.own (.lst K)) x8 (.own (.lst [])) G) = some (.ok .nx, roS rs ps t x4 x5 (.own (.lst BB)) (.own (.lst K2)) x8 (.own (.lst H)) G) := by
  have z4 : 4 ≤ sz := by decide
  simp [roS, fe, a0, fp, ap, z4]
theorem x_run_of (hc : ∀ xs ∈ rs, canon xs = xs) (h2 : 2 ≤ ps.length) (hl : ps.length ≤ 50) (hps : ∀ c ∈ ps, c < rs.length) (ht : t < rs.length) (hch : isChain rs ps t = true) (G : List Cell) :
    m__law_run_of [.lst (rs.map lstI), .tup (numsW (ps ++ [t]))] G = some (.ok (.own (.lst ((runS (ps ++ [t]) (chainKeys rs ps t)).map stepW))), G) := by
  unfold isChain at hch
  rw [List.all_append] at hch
  simp only [Bool.and_eq_true, Bool.not_eq_true', decide_eq_false_iff_not, mids_all, List.all_cons, List.all_nil] at hch
  obtain ⟨hf, he, hm, hla, -⟩ := hch
  unfold m__law_run_of
  rw [fnM_o, _law_run_of_cut]
  show outF (_law_run_of_t0 ⟨[.val (.lst (rs.map lstI)), .val (.tup (numsW (ps ++ [t]))), .non, .non, .non, .non, .non, .non, .non, .non, .non], G⟩) = _
  have sl : ∀ (ws : List W) lo hi r, liftO (fSl (.tup ws) lo hi) ⟨r, G⟩ = some (.ok (.val (.tup (cutW ws lo hi))), ⟨r, G⟩) := fun ws lo hi r => slT _
  have np := nums_path ps t
  have nl := nums_last ps t
  have n2 := nums_two ps
  have ne := nums_end ps (by omega)
  have a0 : atI (numsW ps) 0 = _ := numsW_at (l := ps) (i := 0) (by omega)
  have a1 : atI (numsW ps) 1 = _ := numsW_at (l := ps) (i := 1) (by omega)
  have g := fun {i : Nat} (h : i < ps.length) => getD_lt rs ps hps h
  have dz : ∀ k, (ps.drop k).length ≤ 1000 := fun k => by rw [List.length_drop]; omega
  have k1 := x_keys_of rs hc (ps.getD 0 0) t (g (by omega)) ht (ps.drop 2) (fun c m => hps c (List.mem_of_mem_drop m)) (dz 2) G
  have k2 := x_keys_of rs hc (ps.getD 0 0) (ps.getD 1 0) (g (by omega)) (g (by omega)) (ps.drop 2) (fun c m => hps c (List.mem_of_mem_drop m)) (dz 2) G
  have k3 := x_keys_of rs hc (ps.getD (ps.length - 1) 0) t (g (by omega)) ht [] (fun c m => by simp at m) (by simp) G
  have k3 : m__law_keys_of [.lst (rs.map lstI), .int (ps.getD (ps.length - 1) 0 : Nat), .int (t : Nat), .tup []] G = some (.ok (.own (.lst (numsW (fk (lastB rs ps t))))), G) := k3
  have k1 : m__law_keys_of [.lst (rs.map lstI), .int (ps.getD 0 0 : Nat), .int (t : Nat), .tup (numsW (ps.drop 2))] G = some (.ok (.own (.lst (numsW (fk (earlyB rs ps t))))), G) := k1
  have k2 : m__law_keys_of [.lst (rs.map lstI), .int (ps.getD 0 0 : Nat), .int (ps.getD 1 0 : Nat), .tup (numsW (ps.drop 2))] G = some (.ok (.own (.lst (numsW (fk (firstB rs ps))))), G) := k2
  have le := low_at he
  have lf := low_at hf
  have ll := low_at hla
  have z1 : 1 ≤ sz := by decide
  have z2 : 2 ≤ sz := by decide
  have z4 : 4 ≤ sz := by decide
  have s0 : _law_run_of_s0 ⟨[.val (.lst (rs.map lstI)), .val (.tup (numsW (ps ++ [t]))), .non, .non, .non, .non, .non, .non, .non, .non, .non], G⟩ = some (.ok .nx, ⟨[.val (.lst (rs.map lstI)), .val (.tup (numsW (ps ++ [t]))), .val (.tup (numsW ps)), .non, .non, .non, .non, .non, .non, .non, .non], G⟩) := by
    simp [_law_run_of_s0, sl, np]
  have s1 : _law_run_of_s1 ⟨[.val (.lst (rs.map lstI)), .val (.tup (numsW (ps ++ [t]))), .val (.tup (numsW ps)), .non, .non, .non, .non, .non, .non, .non, .non], G⟩ = some (.ok .nx, roS rs ps t .non .non .non .non .non .non G) := by
    simp [_law_run_of_s1, nl]
  have s2 : _law_run_of_s2 (roS rs ps t .non .non .non .non .non .non G) = some (.ok .nx, roS rs ps t (.own (.lst (numsW (fk (earlyB rs ps t))))) .non .non .non .non .non G) := by
    generalize numsW (fk (earlyB rs ps t)) = K1 at k1
    generalize ps.getD 0 0 = p0 at a0 k1
    simp [_law_run_of_s2, roS, a0, sl, n2, k1]
  have s3 : _law_run_of_s3 (roS rs ps t (.own (.lst (numsW (fk (earlyB rs ps t))))) .non .non .non .non .non G) = some (.ok .nx, roS rs ps t (.own (.lst (numsW (fk (earlyB rs ps t))))) (.own (.lst (numsW (fk (firstB rs ps))))) .non .non .non .non G) := by
    generalize numsW (fk (firstB rs ps)) = K2 at k2
    generalize ps.getD 0 0 = p0 at a0 k2
    generalize ps.getD 1 0 = p1 at a1 k2
    simp [_law_run_of_s3, roS, a0, a1, sl, n2, k2]
  have s4 : _law_run_of_s4 (roS rs ps t (.own (.lst (numsW (fk (earlyB rs ps t))))) (.own (.lst (numsW (fk (firstB rs ps))))) .non .non .non .non G) = some (.ok .nx, roS rs ps t (.val (.lst (numsW (fk (earlyB rs ps t))))) (.own (.lst (numsW (fk (firstB rs ps))))) (.own (.lst (numsW (fk (bothB rs ps t))))) .non .non .non G) := by
    have lc := lc_pure (s := roS rs ps t (.val (.lst (numsW (fk (earlyB rs ps t))))) (.own (.lst (numsW (fk (firstB rs ps))))) .non .non .non .non G) (k := ⟨numsW (fk (earlyB rs ps t)), none⟩) (vs := [10]) (t := tgN 10) (tt := (mB (mBin (fIn false) (mName 10) (mName 5)))) (me := mName 10) (e := fun (k : Nat) => W.int (k : Int)) trivial
      (fun k => decide (k ∈ fk (firstB rs ps))) (fun (k : Nat) => W.int (k : Int)) (fk (earlyB rs ps t)) [] (fun k _ => by
        have i1 := fIn_numsL false k (fk (firstB rs ps))
        refine ⟨⟨[.val (.lst (rs.map lstI)), .val (.tup (numsW (ps ++ [t]))), .val (.tup (numsW ps)), .val (.int (t : Nat)), .val (.lst (numsW (fk (earlyB rs ps t)))), .own (.lst (numsW (fk (firstB rs ps)))), .non, .non, .non, .non, .val (.int (k : Nat))], G⟩, ?_, fun _ => ⟨⟨[.val (.lst (rs.map lstI)), .val (.tup (numsW (ps ++ [t]))), .val (.tup (numsW ps)), .val (.int (t : Nat)), .val (.lst (numsW (fk (earlyB rs ps t)))), .own (.lst (numsW (fk (firstB rs ps)))), .non, .non, .non, .non, .val (.int (k : Nat))], G⟩, ?_, by simp [roS]⟩, fun _ => by simp [roS]⟩
        · generalize decide (k ∈ fk (firstB rs ps)) = bb at i1 ⊢
          generalize numsW (fk (firstB rs ps)) = FF at i1 ⊢
          simp [roS, i1]
        · simp [roS]) (by
        have := fk_len (earlyB rs ps t)
        show 0 + _ ≤ 16777216
        omega)
    rw [List.nil_append, fk_filter] at lc
    have lc : lcL _ _ _ _ ⟨numsW (fk (earlyB rs ps t)), none⟩ (numsW (fk (earlyB rs ps t))) [] _ = some (.ok (.own (.lst (numsW (fk (bothB rs ps t))))), _) := lc
    generalize numsW (fk (bothB rs ps t)) = BB at lc
    generalize numsW (fk (earlyB rs ps t)) = EE at lc ⊢
    generalize numsW (fk (firstB rs ps)) = FF at lc ⊢
    simp [_law_run_of_s4, roS] at lc ⊢
    simp [lc]
  have s5 : _law_run_of_s5 (roS rs ps t (.val (.lst (numsW (fk (earlyB rs ps t))))) (.own (.lst (numsW (fk (firstB rs ps))))) (.own (.lst (numsW (fk (bothB rs ps t))))) .non .non .non G) = some (.ok .nx, roS rs ps t (.val (.lst (numsW (fk (earlyB rs ps t))))) (.own (.lst (numsW (fk (firstB rs ps))))) (.own (.lst (numsW (fk (bothB rs ps t))))) (.own (.lst (numsW (midK rs ps t 0)))) .non .non G) := by
    have e0 : midK rs ps t 0 = headKeys rs ps t := by unfold midK; simp
    rw [e0]
    have nb := fNeD_nums (fk (bothB rs ps t))
    unfold headKeys
    by_cases q : fk (bothB rs ps t) = []
    · rw [if_pos q]
      have e : numsW [low (earlyB rs ps t), low (firstB rs ps)] = [.int (low (earlyB rs ps t) : Nat), .int (low (firstB rs ps) : Nat)] := rfl
      rw [e]
      generalize low (earlyB rs ps t) = l1 at le ⊢
      generalize low (firstB rs ps) = l2 at lf ⊢
      generalize numsW (fk (bothB rs ps t)) = BB at nb ⊢
      generalize numsW (fk (earlyB rs ps t)) = EE at le ⊢
      generalize numsW (fk (firstB rs ps)) = FF at lf ⊢
      simp [_law_run_of_s5, roS, nb, q, le, lf, z2]
    · rw [if_neg q]
      have lb := low_at q
      have e : numsW [low (bothB rs ps t)] = [.int (low (bothB rs ps t) : Nat)] := rfl
      rw [e]
      generalize low (bothB rs ps t) = l1 at lb ⊢
      generalize numsW (fk (bothB rs ps t)) = BB at nb lb ⊢
      simp [_law_run_of_s5, roS, nb, q, lb, z1]
  obtain ⟨x8, s6⟩ := ro_loop rs ps t hc h2 hl hps ht hm (.val (.lst (numsW (fk (earlyB rs ps t))))) (.own (.lst (numsW (fk (firstB rs ps))))) (.own (.lst (numsW (fk (bothB rs ps t))))) G
  have ck : midK rs ps t (ps.length - 2) ++ [low (lastB rs ps t)] = chainKeys rs ps t := by
    unfold midK chainKeys midsB
    rw [List.map_append, List.map_map, List.append_assoc]
    rfl
  have s7 : _law_run_of_s7 (roS rs ps t (.val (.lst (numsW (fk (earlyB rs ps t))))) (.own (.lst (numsW (fk (firstB rs ps))))) (.own (.lst (numsW (fk (bothB rs ps t))))) (.own (.lst (numsW (midK rs ps t (ps.length - 2))))) x8 .non G) = some (.ok .nx, roS rs ps t (.val (.lst (numsW (fk (earlyB rs ps t))))) (.own (.lst (numsW (fk (firstB rs ps))))) (.own (.lst (numsW (fk (bothB rs ps t))))) (.own (.lst (numsW (chainKeys rs ps t)))) x8 .non G) := by
    have zl : (numsW (midK rs ps t (ps.length - 2))).length < sz := by
      have := midK_len rs ps t (ps.length - 2)
      rw [numsW_len]
      show _ < 16777216
      omega
    have ap : fAppend (.lst (numsW (midK rs ps t (ps.length - 2)))) [.int (low (lastB rs ps t) : Nat)] = some (.non, .lst (numsW (chainKeys rs ps t))) := by
      rw [← ck, numsW_app]
      unfold fAppend
      exact if_pos zl
    generalize numsW (fk (lastB rs ps t)) = K3 at k3 ll
    generalize low (lastB rs ps t) = l3 at ll ap
    generalize ps.getD (ps.length - 1) 0 = pl at k3 ne
    generalize numsW (midK rs ps t (ps.length - 2)) = M at ap ⊢
    generalize numsW (chainKeys rs ps t) = M2 at ap ⊢
    simp [_law_run_of_s7, roS, ne, k3, ll, ap]
  have s8 : _law_run_of_s8 (roS rs ps t (.val (.lst (numsW (fk (earlyB rs ps t))))) (.own (.lst (numsW (fk (firstB rs ps))))) (.own (.lst (numsW (fk (bothB rs ps t))))) (.own (.lst (numsW (chainKeys rs ps t)))) x8 .non G) = some (.ok .nx, roS rs ps t (.val (.lst (numsW (fk (earlyB rs ps t))))) (.own (.lst (numsW (fk (firstB rs ps))))) (.own (.lst (numsW (fk (bothB rs ps t))))) (.own (.lst (numsW (chainKeys rs ps t)))) x8 (.own (.lst [])) G) := by
    simp [_law_run_of_s8, roS]
  have kl : (chainKeys rs ps t).length = ps.length + (if fk (bothB rs ps t) = [] then 1 else 0) := by
    rw [← ck, List.length_append]
    unfold midK
    rw [List.length_append, List.length_map, List.length_range, head_len]
    simp only [List.length_singleton]
    split <;> omega
  have el : (chainKeys rs ps t).length - ((ps ++ [t]).length - 1) = if fk (bothB rs ps t) = [] then 1 else 0 := by
    rw [kl, List.length_append, List.length_singleton]
    omega
  generalize hE : (if fk (bothB rs ps t) = [] then 1 else 0) = e at kl el
  have he1 : e ≤ 1 := by rw [← hE]; split <;> omega
  have s9 : _law_run_of_s9 (roS rs ps t (.val (.lst (numsW (fk (earlyB rs ps t))))) (.own (.lst (numsW (fk (firstB rs ps))))) (.own (.lst (numsW (fk (bothB rs ps t))))) (.own (.lst (numsW (chainKeys rs ps t)))) x8 (.own (.lst [])) G) = some (.ok .nx, roS rs ps t (.val (.lst (numsW (fk (earlyB rs ps t))))) (.own (.lst (numsW (fk (firstB rs ps))))) (.own (.lst (numsW (fk (bothB rs ps t))))) (.own (.lst (numsW ((chainKeys rs ps t).drop e)))) x8 (.own (.lst ((headS (ps ++ [t]) (chainKeys rs ps t) e).map stepW))) G) := by
    have fe := fEqD_nums (fk (bothB rs ps t))
    by_cases q : fk (bothB rs ps t) = []
    · rw [if_pos q] at hE
      subst hE
      rw [q] at fe
      generalize chainKeys rs ps t = ks at kl ⊢
      match ks, kl with
      | k0 :: ks, _ =>
        have f : fAppend (.lst []) [.tup [.str "write", .int (ps.getD 0 0 : Nat), .int (k0 : Nat), .int 1]] = some (.non, .lst ((headS (ps ++ [t]) (k0 :: ks) 1).map stepW)) := by
          have z0 : 0 < sz := by decide
          have hh : headS (ps ++ [t]) (k0 :: ks) 1 = [wrS (ps.getD 0 0 : Nat) (k0 : Nat) 1] := by
            unfold headS
            rw [if_pos rfl, getD_app (by omega)]
            rfl
          rw [hh]
          generalize ps.getD 0 0 = p0
          simp [fAppend, z0, wrS_w]
        have fp : fPop (.lst (numsW (k0 :: ks))) [.int 0] = some (.int (k0 : Nat), .lst (numsW ks)) := fPop0
        rw [q]
        have dr : (k0 :: ks).drop 1 = ks := rfl
        rw [dr]
        generalize (headS (ps ++ [t]) (k0 :: ks) 1).map stepW = H at f ⊢
        generalize numsW (k0 :: ks) = K at fp ⊢
        generalize ps.getD 0 0 = p0 at a0 f
        exact pop9 rs ps t (show _ = some (OR.imm (.bl true)) from fe) a0 fp f
    · rw [if_neg q] at hE
      subst hE
      rw [List.drop_zero]
      generalize numsW (fk (bothB rs ps t)) = BB at fe ⊢
      simp [_law_run_of_s9, roS, fe, q, headS]
  have hd : decide (fk (bothB rs ps t) = []) = decide (e = 1) := by
    rw [decide_eq_decide, ← hE]
    by_cases q : fk (bothB rs ps t) = []
    · simp [q]
    · simp [q]
  obtain ⟨x8', s10⟩ := ro_turns rs ps t (ps ++ [t]) (chainKeys rs ps t) e he1 (fk (bothB rs ps t)) hd rfl kl hl (.val (.lst (numsW (fk (earlyB rs ps t))))) (.own (.lst (numsW (fk (firstB rs ps))))) x8 G
  unfold _law_run_of_t0
  rw [seqt s0]
  unfold _law_run_of_t1
  rw [seqt s1]
  unfold _law_run_of_t2
  rw [seqt s2]
  unfold _law_run_of_t3
  rw [seqt s3]
  unfold _law_run_of_t4
  rw [seqt s4]
  unfold _law_run_of_t5
  rw [seqt s5]
  unfold _law_run_of_t6
  rw [seqt s6]
  unfold _law_run_of_t7
  rw [seqt s7]
  unfold _law_run_of_t8
  rw [seqt s8]
  unfold _law_run_of_t9
  rw [seqt s9]
  unfold _law_run_of_t10
  rw [seqt s10]
  unfold runS
  rw [el]
  simp [_law_run_of_t11, _law_run_of_s11, roS, outF]
end
end Z
set_option linter.all false
set_option maxRecDepth 100000
set_option maxHeartbeats 4000000
namespace Z
open PySem PySem.Spec PyProof.Rows L2
def intsN (c : List Nat) : List Int := c.map fun (x : Nat) => (x : Int)
theorem natT_e (c : List Nat) : natT c = tupI (intsN c) := (natI_e c).symm
def WordS (x : List (Bool ⊕ Int)) : Prop := ∃ (b : Bool) (ks : List Int), x = .inl b :: ks.map .inr ∧ ks.length ≤ 3
theorem wordS_w {c k v : Int} : WordS (wrS c k v) := ⟨true, [c, k, v], rfl, by simp⟩
theorem wordS_t {a b : Int} : WordS (tkS a b) := ⟨false, [a, b], rfl, by simp⟩
theorem run_word {cs keys : List Nat} : ∀ x ∈ runS cs keys, WordS x := fun x hx => by
  unfold runS at hx
  rcases List.mem_append.mp hx with h | h
  · unfold headS at h
    split at h
    · rw [List.mem_singleton.mp h]; exact wordS_w
    · cases h
  · obtain ⟨i, -, h⟩ := List.mem_flatMap.mp h
    unfold turnS at h
    simp only [List.mem_cons, List.not_mem_nil, or_false] at h
    rcases h with rfl | rfl
    · exact wordS_w
    · exact wordS_t
theorem run_len {cs keys : List Nat} : (runS cs keys).length ≤ 1 + 2 * cs.length := by
  unfold runS
  rw [List.length_append]
  have h1 : ∀ e, (headS cs keys e).length ≤ 1 := fun e => by unfold headS; split <;> simp
  have h2 : ∀ e n, ((List.range n).flatMap (turnS cs keys e)).length = 2 * n := fun e n => by
    induction n with
    | zero => rfl
    | succ n ih => rw [List.range_succ, List.flatMap_append, List.length_append, ih]; simp [turnS]; omega
  rw [h2]
  have := h1 (keys.length - (cs.length - 1))
  omega
theorem fAll_true {γ : Type} (xs : List γ) : fAll [.lst (xs.map fun _ => W.bl true)] = some (.imm (.bl true)) := by
  have : blsOf (xs.map fun _ => W.bl true) = some (xs.map fun _ => true) := by
    induction xs with
    | nil => rfl
    | cons x xs ih => simp [blsOf, ih]
  unfold fAll
  simp [this]
theorem x_same_steps {R : W} (st : List (List (Bool ⊕ Int))) (hw : ∀ x ∈ st, WordS x) (hl : st.length ≤ 1000) (G : List Cell) (hR : ∀ r, look (.val R) ⟨r, G⟩ = some (.ok (.lst (st.map stepW)), ⟨r, G⟩)) : m__law_same_steps [R, .lst (st.map stepW)] G = some (.ok (.val (.bl true)), G) := by
  unfold m__law_same_steps
  rw [fnM_o]
  have hb : Rk (st.length : Int) := rk_nat (by omega)
  have t1 : tabAt ti_list (.ty "list") = some true := by decide +kernel
  have t2 : tabAt ti_tuple (.ty "tuple") = some true := by decide +kernel
  have t3 : tabAt ti_str (.ty "str") = some true := by decide +kernel
  have t4 : tabAt ti_int (.ty "int") = some true := by decide +kernel
  have t5 : tabAt ti_bool (.ty "int") = some false := by decide +kernel
  have ii : ∀ (k : Int) G, m__law_is_int [.int k] G = some (.ok (.val (.bl true)), G) := fun k G => by
    unfold m__law_is_int
    rw [fnM_e]
    simp [b__law_is_int, t4, t5]
  have ns : ∀ n : Int, fNeD (.int n) (.int n) = some (.imm (.bl false)) := fun n => by rw [fNeD_i]; simp
  simp [b__law_same_steps, t1, hb, hR, ns]
  generalize hF : forL _ _ _ _ = F
  obtain ⟨s', rfl, v2, rfl⟩ := forL_at hF (fun i s => ∃ v2, s = ⟨[.val R, .val (.lst (st.map stepW)), v2, .non], G⟩) ⟨_, rfl⟩ (by
    rintro i hi s ⟨v2, rfl⟩
    have hi : i < st.length := by simpa [rngW] using hi
    have ei : (rngW 0 st.length)[i]'(by simpa [rngW] using hi) = W.int i := by simp [rngW]
    rw [ei]
    have e : atI (st.map stepW) (i : Int) = some (stepW st[i]) := atI_nat (by simp [hi])
    have hne : fNeD (stepW st[i]) (stepW st[i]) = some (.imm (.bl false)) := by rw [fNeD_emb emb_step (by decide)]; simp
    obtain ⟨b, ks, ew, hk⟩ := hw _ (List.getElem_mem hi)
    have sw : stepW st[i] = .tup (PW (.inl b) :: ks.map W.int) := by
      rw [ew]
      unfold stepW
      rw [List.map_cons, List.map_map]
      rfl
    rw [sw] at e hne
    generalize st.map stepW = D at hR e ⊢
    have a0 : atI (PW (.inl b) :: ks.map W.int) 0 = some (PW (.inl b)) := by show atI _ ((0 : Nat) : Int) = _; exact atI_nat rfl
    have sl : cutW (PW (.inl b) :: ks.map W.int) (some 1) none = ks.map W.int := by
      have := cut_from (PW (.inl b) :: ks.map W.int) 1
      exact this
    have sl : ∀ s, liftO (fSl (.tup (PW (.inl b) :: ks.map W.int)) (some 1) none) s = some (.ok (.val (.tup (ks.map W.int))), s) := fun s => by
      rw [slT, sl]
    have tp : tyOfW (PW (.inl b)) = some (.ty "str") := by cases b <;> rfl
    have lk : ∀ r, look (.val (PW (.inl b))) ⟨r, G⟩ = some (.ok (PW (.inl b)), ⟨r, G⟩) := fun r => by cases b <;> rfl
    have lc : lcL [3] (tgN 3) mYes (mCall 1 m__law_is_int (mCons (mName 3) mNil)) ⟨ks.map W.int, none⟩ (ks.map W.int) [] ⟨[.val R, .val (.lst D), .val (.int i), .non], G⟩ =
        some (.ok (.own (.lst (ks.map fun _ => W.bl true))), ⟨[.val R, .val (.lst D), .val (.int i), .non], G⟩) := by
      rw [lc_all (by exact trivial) (fun _ => W.bl true)]
      · simp
      · intro k hk
        exact ⟨⟨[.val R, .val (.lst D), .val (.int i), .val (.int k)], G⟩, by simp, ⟨[.val R, .val (.lst D), .val (.int i), .val (.int k)], G⟩, by simp [ii], by simp⟩
      · show 0 + _ ≤ 16777216
        omega
    have fa := fAll_true ks
    generalize (ks.map fun _ => W.bl true) = TT at lc fa
    refine ⟨⟨[.val R, .val (.lst D), .val (.int i), .non], G⟩, ?_, _, rfl⟩
    generalize hq : ks.map W.int = Q at e hne a0 sl lc ⊢
    generalize PW (.inl b) = B at e hne a0 sl tp lk ⊢
    simp [hR, e, t2, hne, a0, sl, tp, lk, t3, lc, fa])
  simp
theorem sub_perm : ∀ {l ys : List Int}, l.Nodup → (∀ x ∈ l, x ∈ ys) → ∃ zs, List.Perm ys (l ++ zs)
  | [], ys, _, _ => ⟨ys, .refl _⟩
  | x :: l, ys, hn, h => by
    have hx := h x List.mem_cons_self
    obtain ⟨hx2, hn2⟩ := List.nodup_cons.mp hn
    obtain ⟨zs, hz⟩ := sub_perm (ys := ys.erase x) hn2 (fun y hy => (List.mem_erase_of_ne (fun e => by subst e; exact hx2 hy)).mpr (h y (List.mem_cons_of_mem x hy)))
    exact ⟨zs, (List.perm_cons_erase hx).trans (.cons x hz)⟩
def inR (n : Nat) (ys : List Int) : List Int := ((List.range n).filter fun (c : Nat) => decide ((c : Int) ∈ ys)).map fun (c : Nat) => (c : Int)
theorem inR_nodup {n : Nat} {ys : List Int} : (inR n ys).Nodup := by
  unfold inR List.Nodup
  rw [List.pairwise_map]
  have : (List.range n).Nodup := List.nodup_range
  exact (this.sublist (List.filter_sublist)).imp fun h z => h (by omega)
theorem inR_mem {n : Nat} {ys : List Int} {x : Int} : x ∈ inR n ys ↔ x ∈ ys ∧ 0 ≤ x ∧ x < n := by
  unfold inR
  constructor
  · intro h
    obtain ⟨c, hc, rfl⟩ := List.mem_map.mp h
    obtain ⟨h1, h2⟩ := List.mem_filter.mp hc
    have := List.mem_range.mp h1
    exact ⟨of_decide_eq_true h2, by omega, by omega⟩
  · rintro ⟨h1, h2, h3⟩
    refine List.mem_map.mpr ⟨x.toNat, List.mem_filter.mpr ⟨List.mem_range.mpr (by omega), ?_⟩, by omega⟩
    have : ((x.toNat : Nat) : Int) = x := by omega
    rw [this]
    exact decide_eq_true h1
theorem inR_len {n : Nat} {ys : List Int} : (inR n ys).length = ys.length ↔ ys.Nodup ∧ ∀ x ∈ ys, 0 ≤ x ∧ x < n := by
  constructor
  · intro h
    obtain ⟨zs, hz⟩ := sub_perm (inR_nodup (n := n) (ys := ys)) (fun x hx => (inR_mem.mp hx).1)
    have e := hz.length_eq
    rw [List.length_append] at e
    have : zs = [] := List.length_eq_zero_iff.mp (by omega)
    subst this
    rw [List.append_nil] at hz
    exact ⟨hz.nodup_iff.mpr inR_nodup, fun x hx => (inR_mem.mp (hz.mem_iff.mp hx)).2⟩
  · rintro ⟨h1, h2⟩
    obtain ⟨zs, hz⟩ := sub_perm (inR_nodup (n := n) (ys := ys)) (fun x hx => (inR_mem.mp hx).1)
    obtain ⟨zt, ht⟩ := sub_perm (ys := inR n ys) h1 (fun x hx => inR_mem.mpr ⟨hx, h2 x hx⟩)
    have e1 := hz.length_eq
    have e2 := ht.length_eq
    rw [List.length_append] at e1 e2
    omega
theorem path_len {n : Nat} {ys : List Int} : isPathB n ys = (decide (3 ≤ ys.length) && decide ((inR n ys).length = ys.length)) := by
  unfold isPathB
  congr 1
  rw [Bool.eq_iff_iff]
  simp only [Bool.and_eq_true, decide_eq_true_eq, inR_len, List.all_eq_true]
theorem path_form {n : Nat} {ys : List Int} (h : isPathB n ys = true) : ∃ ps t, ys = intsN (ps ++ [t]) := by
  unfold isPathB at h
  simp only [Bool.and_eq_true, decide_eq_true_eq, List.all_eq_true] at h
  obtain ⟨h1, -, h3⟩ := h
  have e : ys = intsN (ys.map Int.toNat) := by
    unfold intsN
    rw [List.map_map]
    have := List.map_congr_left (f := (fun (x : Nat) => (x : Int)) ∘ Int.toNat) (g := id) (l := ys) (fun x hx => by
      have := (h3 x hx).1
      show ((x.toNat : Nat) : Int) = x
      omega)
    rw [List.map_id] at this
    exact this.symm
  have hne : ys.map Int.toNat ≠ [] := fun z => by
    have := congrArg List.length z
    rw [List.length_map] at this
    have h0 : ([] : List Nat).length = 0 := rfl
    omega
  exact ⟨(ys.map Int.toNat).dropLast, (ys.map Int.toNat).getLast hne, by rw [List.dropLast_concat_getLast hne]; exact e⟩
end Z
set_option linter.all false
set_option maxRecDepth 100000
set_option maxHeartbeats 4000000
namespace Z
open PySem PySem.Spec PyProof.Rows L2
def chainB (rs : List (List Int)) (ys : List Int) : Bool := isPathB rs.length ys && isChain rs ((ys.map Int.toNat).dropLast) ((ys.map Int.toNat).getLastD 0)
theorem chain_form {rs : List (List Int)} {ps : List Nat} {t : Nat} : chainB rs (intsN (ps ++ [t])) = (isPathB rs.length (intsN (ps ++ [t])) && isChain rs ps t) := by
  unfold chainB
  have e : (intsN (ps ++ [t])).map Int.toNat = ps ++ [t] := by
    unfold intsN
    rw [List.map_map]
    have : (Int.toNat ∘ fun (x : Nat) => (x : Int)) = id := by funext x; simp
    rw [this, List.map_id]
  rw [e, List.dropLast_concat]
  congr 2
  simp
theorem x_valid (rs : List (List Int)) (hc : ∀ xs ∈ rs, canon xs = xs) (h6 : rs.length ≤ 6) (ys : List Int) (hl : ys.length ≤ 50) (G : List Cell) : m__law_valid [.lst (rs.map lstI), tupI ys] G = some (.ok (.val (.bl (chainB rs ys))), G) := by
  unfold m__law_valid
  rw [fnM_o]
  have rk : Rk (rs.length : Int) := rk_nat (by omega)
  have ln : fLen [tupI ys] = some (.imm (.int ys.length)) := by unfold tupI; rw [fLen_t, List.length_map]
  have lk : ∀ r, look (.val (tupI ys)) ⟨r, G⟩ = some (.ok (tupI ys), ⟨r, G⟩) := fun _ => rfl
  by_cases h3 : 3 ≤ ys.length
  · have h3' : ¬ ((ys.length : Int) < 3) := by omega
    have lc := lc_pure (s := ⟨[.val (.lst (rs.map lstI)), .val (tupI ys), .non], G⟩) (k := ⟨rngW 0 rs.length, none⟩) (vs := [2]) (t := tgN 2) (tt := (mB (mBin (fIn false) (mName 2) (mName 1)))) (me := mName 2) (e := fun (c : Nat) => W.int (0 + (c : Int))) trivial
      (fun c => decide ((c : Int) ∈ ys)) (fun (c : Nat) => W.int (c : Int)) (List.range rs.length) [] (fun c _ => by
        have i1 : fIn false (.int (c : Int)) (tupI ys) = _ := fIn_tupI false c ys
        refine ⟨⟨[.val (.lst (rs.map lstI)), .val (tupI ys), .val (.int (c : Nat))], G⟩, ?_, fun _ => ⟨⟨[.val (.lst (rs.map lstI)), .val (tupI ys), .val (.int (c : Nat))], G⟩, ?_, by simp⟩, fun _ => by simp⟩
        · simp [lk, i1]
        · simp) (by
        show 0 + _ ≤ 16777216
        simp
        omega)
    rw [List.nil_append] at lc
    have l2 : fLen [.lst (((List.range rs.length).filter fun (c : Nat) => decide ((c : Int) ∈ ys)).map fun (c : Nat) => W.int (c : Int))] = some (.imm (.int (inR rs.length ys).length)) := by
      rw [fLen_l]
      unfold inR
      rw [List.length_map, List.length_map]
    generalize (((List.range rs.length).filter fun (c : Nat) => decide ((c : Int) ∈ ys)).map fun (c : Nat) => W.int (c : Int)) = LL at lc l2
    have lc : lcL _ _ _ _ ⟨rngW 0 rs.length, none⟩ (rngW 0 rs.length) [] _ = _ := lc
    have pl := path_len (n := rs.length) (ys := ys)
    by_cases q : (inR rs.length ys).length = ys.length
    · have hp : isPathB rs.length ys = true := by rw [pl]; simp [h3, q]
      obtain ⟨ps, t, rfl⟩ := path_form hp
      obtain ⟨h2, -, hps, ht⟩ := path_in hp
      have ic := x_is_chain rs ps t hc h2 (by
        have : (intsN (ps ++ [t])).length = (ps ++ [t]).length := by simp [intsN]
        rw [List.length_append] at this
        omega) hps ht G
      have ty : tupI (intsN (ps ++ [t])) = .tup (numsW (ps ++ [t])) := (natT_e _).symm
      rw [chain_form, hp]
      rw [← ty] at ic
      generalize isChain rs ps t = bb at ic ⊢
      generalize tupI (intsN (ps ++ [t])) = C at ln lk lc ic ⊢
      rw [Bool.true_and]
      simp [b__law_valid, ln, lk, rk, lc, l2, q, ic, fNeD_i, h3']
    · have hp : isPathB rs.length ys = false := by rw [pl]; simp [q]
      have cb : chainB rs ys = false := by unfold chainB; rw [hp]; rfl
      rw [cb]
      have q' : ¬ (((inR rs.length ys).length : Int) = (ys.length : Int)) := by omega
      simp [b__law_valid, ln, lk, rk, lc, l2, q', fNeD_i, h3']
  · have h3' : ((ys.length : Int) < 3) := by omega
    have cb : chainB rs ys = false := by
      unfold chainB isPathB
      simp [h3]
    rw [cb]
    simp [b__law_valid, ln, h3']
theorem x_keys_none (rs : List (List Int)) (hc : ∀ xs ∈ rs, canon xs = xs) (h6 : rs.length ≤ 6) (ys : List Int) (hl : ys.length ≤ 50) (h : chainB rs ys = false) (G : List Cell) : m_chain_keys [lay rs, tupI ys] G = some (.ok (.val .non), G) := by
  cases hp : isPathB rs.length ys with
  | false => exact x_keys_bad rs (by omega) ys (by omega) hp G
  | true =>
    obtain ⟨ps, t, rfl⟩ := path_form hp
    rw [chain_form, hp, Bool.true_and] at h
    have := x_keys rs ps t hc h6 (by
      have : (intsN (ps ++ [t])).length = (ps ++ [t]).length := by simp [intsN]
      rw [List.length_append] at this
      omega) hp G
    rw [h] at this
    exact this
theorem x_run_none (rs : List (List Int)) (hc : ∀ xs ∈ rs, canon xs = xs) (h6 : rs.length ≤ 6) (ys : List Int) (hl : ys.length ≤ 50) (h : chainB rs ys = false) (G : List Cell) : m_chain_run [lay rs, tupI ys] G = some (.error ⟨"NoChain", [("chain", tupI ys)]⟩, G) := x_run_bad _ _ G (x_keys_none rs hc h6 ys hl h G)
theorem chainKeys_len {rs : List (List Int)} {ps : List Nat} {t : Nat} (h2 : 2 ≤ ps.length) : ∃ e, e ≤ 1 ∧ (chainKeys rs ps t).length = ps.length + e := by
  unfold chainKeys headKeys midsB
  split
  · exact ⟨1, Nat.le_refl _, by simp; omega⟩
  · exact ⟨0, by omega, by simp; omega⟩
theorem x_run_some (rs : List (List Int)) (hc : ∀ xs ∈ rs, canon xs = xs) (h6 : rs.length ≤ 6) (ps : List Nat) (t : Nat) (hl : ps.length ≤ 50) (hp : isPathB rs.length (intsN (ps ++ [t])) = true) (h : isChain rs ps t = true) (G : List Cell) : m_chain_run [lay rs, .tup (numsW (ps ++ [t]))] G = some (.ok (.own (.lst ((runS (ps ++ [t]) (chainKeys rs ps t)).map stepW))), G) := by
  obtain ⟨h2, -, -, -⟩ := path_in hp
  obtain ⟨e, he, el⟩ := chainKeys_len (rs := rs) (t := t) h2
  refine x_run_go (lay rs) (ps ++ [t]) (chainKeys rs ps t) e he (by simp; omega) (by rw [el]; simp) (by simp; omega) G (fun _ => rfl) ?_
  have := x_keys rs ps t hc h6 hl hp G
  rw [if_pos h, natI_e] at this
  exact this
theorem x_refused (rs : List (List Int)) (hc : ∀ xs ∈ rs, canon xs = xs) (h6 : rs.length ≤ 6) (ys : List Int) (hl : ys.length ≤ 50) (h : chainB rs ys = false) (G : List Cell) : m__law_refused [lay rs, tupI ys] G = some (.ok (.val (.bl true)), G) := by
  unfold m__law_refused
  rw [fnM_o]
  have e := x_run_none rs hc h6 ys hl h G
  have eq : fEqD (tupI ys) (tupI ys) = some (.imm (.bl true)) := by
    rw [show fEqD (tupI ys) (tupI ys) = _ from fEqD_emb emb_row (by decide) ys ys]
    simp
  have t1 : tabAt tx_KeeperError (.own "NoChain") = some true := by decide +kernel
  have t2 : tabAt tx_LineError (.own "NoChain") = some false := by decide +kernel
  have t3 : th_NoChain.lookup ("NoChain" : Str) = some true := by decide +kernel
  have t4 : ("NoChain" : Str) ∈ xfn_chain := by decide +kernel
  have lk : ∀ r, look (.val (tupI ys)) ⟨r, G⟩ = some (.ok (tupI ys), ⟨r, G⟩) := fun _ => rfl
  simp [b__law_refused, e, t1, t2, t3, t4, eq, lk, noExc]
theorem line_mem {rs : List (List Int)} {l : List Int} (h : l ∈ linesOf rs) : ∃ s t : Nat, l = [(s : Int), (t : Int)] ∧ s < rs.length ∧ t < rs.length := by
  unfold linesOf at h
  obtain ⟨s, hs, h⟩ := List.mem_flatMap.mp h
  unfold linesFrom at h
  obtain ⟨t, ht, rfl⟩ := List.mem_map.mp h
  exact ⟨s, t, rfl, List.mem_range.mp hs, List.mem_range.mp (List.mem_filter.mp ht).1⟩
theorem atI_mod {α : Type} {l : List α} (x : Int) (h : l ≠ []) : ∃ y ∈ l, atI l (x % (l.length : Int)) = some y := by
  have hl : 0 < l.length := List.length_pos_iff.mpr h
  obtain ⟨n, hn⟩ := Int.eq_ofNat_of_zero_le (Int.emod_nonneg x (show (l.length : Int) ≠ 0 by omega))
  have hlt := Int.emod_lt_of_pos x (show (0 : Int) < l.length by omega)
  have hn2 : n < l.length := by omega
  refine ⟨l[n], List.getElem_mem hn2, ?_⟩
  rw [hn]
  exact atI_nat (by simp [hn2])
theorem fNeD_tups (l : List (List Int)) : fNeD (.lst (l.map tupI)) (.lst []) = some (.imm (.bl (!decide (l = [])))) := by
  have := fNeD_emb (emb_lst emb_row) (by decide) l []
  refine Eq.trans this ?_
  congr 3
  rw [← decide_not, decide_eq_decide]
theorem cut_map {α β : Type} (f : α → β) (ws : List α) (lo hi : Option Int) : cutW (ws.map f) lo hi = (cutW ws lo hi).map f := by
  unfold cutW
  simp [List.map_take, List.map_drop]
theorem cut_len {α : Type} (ws : List α) (lo hi : Option Int) : (cutW ws lo hi).length ≤ ws.length := by
  unfold cutW
  rw [List.length_take, List.length_drop]
  omega
theorem x_drawn (rs : List (List Int)) (hc : ∀ xs ∈ rs, canon xs = xs) (h3 : 3 ≤ rs.length) (h6 : rs.length ≤ 6) (xs : List Int) (hl : xs.length = 11) (G : List Cell) : ∃ ys : List Int, ys.length ≤ 11 ∧ m__law_drawn [.lst (rs.map lstI), .lst (xs.map W.int)] G = some (.ok (.val (tupI ys)), G) := by
  unfold m__law_drawn
  rw [fnM_o, _law_drawn_cut]
  show ∃ ys : List Int, ys.length ≤ 11 ∧ outF (_law_drawn_t0 ⟨[.val (.lst (rs.map lstI)), .val (.lst (xs.map W.int)), .non, .non, .non, .non, .non], G⟩) = _
  have li := x_law_lines rs (by omega) (fun x hx => by have := canon_len x; rw [hc x hx] at this; omega) G
  have s0 : _law_drawn_s0 ⟨[.val (.lst (rs.map lstI)), .val (.lst (xs.map W.int)), .non, .non, .non, .non, .non], G⟩ = some (.ok .nx, ⟨[.val (.lst (rs.map lstI)), .val (.lst (xs.map W.int)), .own (.lst ((linesOf rs).map tupI)), .non, .non, .non, .non], G⟩) := by
    simp [_law_drawn_s0, li]
  unfold _law_drawn_t0
  rw [seqt s0]
  have at_ : ∀ i : Nat, i < 11 → ∃ x, atI (xs.map W.int) (i : Int) = some (.int x) := fun i h => by
    have hi : i < xs.length := by omega
    exact ⟨xs[i], atI_nat (by simp [hi])⟩
  obtain ⟨x0, e0⟩ := at_ 0 (by decide)
  obtain ⟨x1, e1⟩ := at_ 1 (by decide)
  obtain ⟨x2, e2⟩ := at_ 2 (by decide)
  obtain ⟨x3, e3⟩ := at_ 3 (by decide)
  have e0 : atI (xs.map W.int) 0 = _ := e0
  have e1 : atI (xs.map W.int) 1 = _ := e1
  have e2 : atI (xs.map W.int) 2 = _ := e2
  have e3 : atI (xs.map W.int) 3 = _ := e3
  have tail : ∀ x2 x3' x4 x5 : SV, ∃ ys : List Int, ys.length ≤ 11 ∧ outF (_law_drawn_t2 ⟨[.val (.lst (rs.map lstI)), .val (.lst (xs.map W.int)), x2, x3', x4, x5, .non], G⟩) = some (.ok (.val (tupI ys)), G) := fun y2 y3 y4 y5 => by
    have cl : (cutW xs (some 4) (some (4 + x3 % 8))).length ≤ 11 := by
      have := cut_len xs (some 4) (some (4 + x3 % 8))
      omega
    refine ⟨(cutW xs (some 4) (some (4 + x3 % 8))).map fun x => x % ((rs.length : Int) + 2) - 1, by rw [List.length_map]; exact cl, ?_⟩
    have sl : ∀ s, liftO (fSl (.lst (xs.map W.int)) (some 4) (some (4 + x3 % 8))) s = some (.ok (.own (.lst ((cutW xs (some 4) (some (4 + x3 % 8))).map W.int))), s) := fun s => by
      show liftO (some (OR.newl (cutW (xs.map W.int) (some 4) (some (4 + x3 % 8))))) s = _
      rw [cut_map]
      rfl
    generalize cutW xs (some 4) (some (4 + x3 % 8)) = zs at cl sl
    have p2 : (0 : Int) < (rs.length : Int) + 2 := by omega
    have lc := lc_all (s := ⟨[.val (.lst (rs.map lstI)), .val (.lst (xs.map W.int)), y2, y3, y4, y5, .non], G⟩) (k := ⟨zs.map W.int, none⟩) (vs := [6]) (t := tgN 6) (tt := mYes) (me := (mBin fSub (mBin fMod (mCB fInt1 (mCons (mName 6) mNil)) (mBin fAdd (mCB fLen (mCons (mName 0) mNil)) (mC (.int 2)))) (mC (.int 1)))) (e := W.int) trivial
      (fun x => W.int (x % ((rs.length : Int) + 2) - 1)) zs [] (fun x _ => ⟨⟨[.val (.lst (rs.map lstI)), .val (.lst (xs.map W.int)), y2, y3, y4, y5, .val (.int x)], G⟩, by simp, ⟨[.val (.lst (rs.map lstI)), .val (.lst (xs.map W.int)), y2, y3, y4, y5, .val (.int x)], G⟩, by simp [p2], by simp⟩) (by
        show 0 + _ ≤ 16777216
        omega)
    rw [List.nil_append] at lc
    unfold tupI
    rw [List.map_map]
    have lc : lcL _ _ _ _ ⟨zs.map W.int, none⟩ (zs.map W.int) [] _ = some (.ok (.own (.lst (zs.map (W.int ∘ fun x => x % ((rs.length : Int) + 2) - 1)))), _) := lc
    generalize zs.map (W.int ∘ fun x => x % ((rs.length : Int) + 2) - 1) = RR at lc ⊢
    generalize zs.map W.int = ZZ at sl lc
    have ft : fTuple [.lst RR] = some (.newt RR) := rfl
    generalize xs.map W.int = XX at e3 sl lc ⊢
    simp [_law_drawn_t2, _law_drawn_s2, e3, sl, lc, ft, outF]
  have nl := fNeD_tups (linesOf rs)
  unfold _law_drawn_t1
  by_cases q0 : x0 < 3 ∧ linesOf rs ≠ []
  · obtain ⟨l0, lm0, la⟩ := atI_mod (l := (linesOf rs).map tupI) x1 (by simpa using q0.2)
    obtain ⟨l1, lm1, rfl⟩ := List.mem_map.mp lm0
    obtain ⟨s, t, rfl, hs, ht⟩ := line_mem lm1
    have ch := x_chains rs s t hc (by omega) h6 hs ht G
    have fm := found_mem rs s t hs (i := rs.length - 2)
    have e : (foundL rs s t (rs.length - 2)).map natT = ((foundL rs s t (rs.length - 2)).map intsN).map tupI := by
      rw [List.map_map]
      exact List.map_congr_left fun c _ => natT_e c
    have nf := fNeD_tups ((foundL rs s t (rs.length - 2)).map intsN)
    rw [← e] at nf
    have ql : 0 < ((linesOf rs).map tupI).length := by
      have : 0 < (linesOf rs).length := List.length_pos_iff.mpr q0.2
      rw [List.length_map]
      exact this
    have wl : tupI [(s : Int), (t : Int)] = .tup [.int s, .int t] := rfl
    rw [wl] at la
    by_cases qf : foundL rs s t (rs.length - 2) = []
    · have s1 : ∃ y3, _law_drawn_s1 ⟨[.val (.lst (rs.map lstI)), .val (.lst (xs.map W.int)), .own (.lst ((linesOf rs).map tupI)), .non, .non, .non, .non], G⟩ = some (.ok .nx, ⟨[.val (.lst (rs.map lstI)), .val (.lst (xs.map W.int)), .own (.lst ((linesOf rs).map tupI)), y3, .val (.int (s : Nat)), .val (.int (t : Nat)), .non], G⟩) := by
        rw [qf] at ch nf
        have nf : fNeD (.lst []) (.lst []) = some (.imm (.bl false)) := nf
        refine ⟨.own (.lst []), ?_⟩
        generalize (linesOf rs).map tupI = LL at la nl ql ⊢
        generalize xs.map W.int = XX at e0 e1 e2 ⊢
        simp [_law_drawn_s1, e0, q0.1, nl, q0.2, _law_drawn_s1a_t0, _law_drawn_s1a_s0, _law_drawn_s1a_t1, _law_drawn_s1a_s1, _law_drawn_s1a_t2, _law_drawn_s1a_s2, e1, ql, la, ch, nf]
      obtain ⟨y3, s1⟩ := s1
      rw [seqt s1]
      exact tail _ _ _ _
    · obtain ⟨c0, cm0, ca⟩ := atI_mod (l := (foundL rs s t (rs.length - 2)).map natT) x2 (by simpa using qf)
      obtain ⟨c1, cm1, rfl⟩ := List.mem_map.mp cm0
      obtain ⟨p, rfl, -, hp, -⟩ := fm c1 cm1
      refine ⟨intsN (p ++ [t]), by simp [intsN]; omega, ?_⟩
      have qq : 0 < ((foundL rs s t (rs.length - 2)).map natT).length := by
        have : 0 < (foundL rs s t (rs.length - 2)).length := List.length_pos_iff.mpr qf
        rw [List.length_map]
        exact this
      have s1 : _law_drawn_s1 ⟨[.val (.lst (rs.map lstI)), .val (.lst (xs.map W.int)), .own (.lst ((linesOf rs).map tupI)), .non, .non, .non, .non], G⟩ = some (.ok (.rt (.val (natT (p ++ [t])))), ⟨[.val (.lst (rs.map lstI)), .val (.lst (xs.map W.int)), .own (.lst ((linesOf rs).map tupI)), .own (.lst ((foundL rs s t (rs.length - 2)).map natT)), .val (.int (s : Nat)), .val (.int (t : Nat)), .non], G⟩) := by
        have lkc : ∀ r, look (.val (natT (p ++ [t]))) ⟨r, G⟩ = some (.ok (natT (p ++ [t])), ⟨r, G⟩) := fun _ => rfl
        have qe : decide ((foundL rs s t (rs.length - 2)).map intsN = []) = false := by simpa using qf
        rw [qe] at nf
        generalize (foundL rs s t (rs.length - 2)).map natT = FF at ch nf ca qq ⊢
        generalize natT (p ++ [t]) = CC at ca lkc ⊢
        generalize (linesOf rs).map tupI = LL at la nl ql ⊢
        generalize xs.map W.int = XX at e0 e1 e2 ⊢
        simp [_law_drawn_s1, e0, q0.1, nl, q0.2, _law_drawn_s1a_t0, _law_drawn_s1a_s0, _law_drawn_s1a_t1, _law_drawn_s1a_s1, _law_drawn_s1a_t2, _law_drawn_s1a_s2, e1, e2, ql, la, ch, nf, qq, ca]
      rw [← natT_e]
      unfold mSeq
      simp [bnd, s1, outF]
  · have s1 : _law_drawn_s1 ⟨[.val (.lst (rs.map lstI)), .val (.lst (xs.map W.int)), .own (.lst ((linesOf rs).map tupI)), .non, .non, .non, .non], G⟩ = some (.ok .nx, ⟨[.val (.lst (rs.map lstI)), .val (.lst (xs.map W.int)), .own (.lst ((linesOf rs).map tupI)), .non, .non, .non, .non], G⟩) := by
      generalize (linesOf rs).map tupI = LL at nl ⊢
      generalize xs.map W.int = XX at e0 ⊢
      by_cases q1 : x0 < 3
      · have q2 : linesOf rs = [] := by
          refine Classical.byContradiction fun h => q0 ⟨q1, h⟩
        simp [_law_drawn_s1, e0, q1, nl, q2]
      · simp [_law_drawn_s1, e0, q1]
    rw [seqt s1]
    exact tail _ _ _ _
end Z
set_option linter.all false
set_option maxRecDepth 100000
set_option maxHeartbeats 1000000
namespace Z
open PySem PySem.Spec PyProof.Rows L2
def layC (rs : List (List Int)) : Cell := .ins "Layout" [("rows", .lst (rs.map tupI)), ("masks", .lst (rs.map fun xs => W.int (mask xs)))]
@[simp high] theorem layC_toW {rs : List (List Int)} : (layC rs).toW = lay rs := rfl
theorem x_layout {r : List SV} {G : List Cell} {rs : List (List Int)} (hc : ∀ xs ∈ rs, canon xs = xs) (h1 : 1 ≤ rs.length) (h6 : rs.length ≤ 6) : makeG "Layout" m_Layout___init__ [.lst (rs.map lstI)] ⟨r, G⟩ = some (.ok (.own (layC rs)), ⟨r, G⟩) :=
  x_makeL (canon_map hc) h1 h6 (canon_k8 hc)
theorem lc_copy {st : SV → S} {i : Nat} {kk : Wk} (rs : List (List Int)) (hl : rs.length ≤ 6) (hk : kk.ok (st .non)) (ht : ∀ v, tgN i v (st .non) = some (.ok (), st (.val v))) (hw : ∀ v, wipeS [i] (st v) = st .non) (hy : ∀ v, mYes (st v) = some (.ok true, st v))
    (he : ∀ xs, (bnd (mCB fList (mCons (mName i) mNil)) fun y => freeze (settle y)) (st (.val (lstI xs))) = some (.ok (lstI xs), st (.val (lstI xs)))) :
    lcL [i] (tgN i) mYes (mCB fList (mCons (mName i) mNil)) kk (rs.map lstI) [] (st .non) = some (.ok (.own (.lst (rs.map lstI))), st .non) := by
  have key := lc_all (s := st .non) (k := kk) (vs := [i]) (t := tgN i) (tt := mYes) (me := mCB fList (mCons (mName i) mNil)) (e := lstI) hk lstI rs [] (fun t m => ⟨st (.val (lstI t)), by rw [bnd_at (ht _)]; exact hy _, st (.val (lstI t)), he _, hw _⟩) (by show 0 + rs.length ≤ 16777216; omega)
  rw [List.nil_append] at key
  exact key
theorem fList_lstI {xs : List Int} : fList [lstI xs] = some (.newl (xs.map W.int)) := rfl
theorem lstI_w {xs : List Int} : W.lst (xs.map W.int) = lstI xs := rfl
end Z
set_option linter.all false
set_option maxRecDepth 100000
set_option maxHeartbeats 4000000
namespace Z
open PySem PySem.Spec PyProof.Rows L2
theorem mul7 (w : W) : fMul (.lst [w]) (.int 7) = some (.newl (List.replicate 7 w)) := by
  show fRepL (.lst [w]) (.int 7) = _
  have h : -(2 ^ 63) ≤ (7 : Int) ∧ (7 : Int) < 2 ^ 63 ∧ [w].length * (7 : Int).toNat ≤ sz := ⟨by decide, by decide, by show 1 * 7 ≤ 16777216; omega⟩
  rw [fRepL]
  exact if_pos h
section
variable {x0 : SV} {rs : List (List Int)}
theorem turn_ok (ys : List Int) (hl : ys.length ≤ 11) (x0' : Int) {xs : List Int} (e0 : atI (xs.map W.int) 0 = some (.int x0')) {x2 x3 x6 x7 : SV} {G : List Cell} : ∃ zs : List Int, zs.length ≤ 33 ∧ law_s2b_s2 ⟨[x0, .val (.lst (rs.map lstI)), x2, x3, .val (.lst (xs.map W.int)), .val (tupI ys), x6, x7, .non], G⟩ = some (.ok .nx, ⟨[x0, .val (.lst (rs.map lstI)), x2, x3, .val (.lst (xs.map W.int)), .val (tupI zs), x6, x7, .non], G⟩) := by
  have ln : fLen [tupI ys] = some (.imm (.int ys.length)) := by unfold tupI; rw [fLen_t, List.length_map]
  have lk : ∀ r, look (.val (tupI ys)) ⟨r, G⟩ = some (.ok (tupI ys), ⟨r, G⟩) := fun _ => rfl
  by_cases q1 : x0' = 2
  · by_cases q2 : 2 < ys.length
    · have q2' : (2 : Int) < (ys.length : Int) := by omega
      have sl : ∀ lo hi s, liftO (fSl (tupI ys) lo hi) s = some (.ok (.val (.tup ((cutW ys lo hi).map W.int))), s) := fun lo hi s => by
        unfold tupI
        rw [slT, cut_map]
      have l1 := cut_len ys none (some 1)
      have l2 := cut_len ys (some 1) (some (-1))
      have l3 := cut_len ys (some (-1)) none
      refine ⟨(cutW ys none (some 1) ++ (cutW ys (some 1) (some (-1))).reverse) ++ cutW ys (some (-1)) none, by simp; omega, ?_⟩
      have s1 := sl none (some 1)
      have s2 := sl (some 1) (some (-1))
      have s3 := sl (some (-1)) none
      have e : tupI ((cutW ys none (some 1) ++ (cutW ys (some 1) (some (-1))).reverse) ++ cutW ys (some (-1)) none) = .tup (((cutW ys none (some 1)).map W.int ++ ((cutW ys (some 1) (some (-1))).map W.int).reverse) ++ (cutW ys (some (-1)) none).map W.int) := by
        unfold tupI
        rw [List.map_append, List.map_append, List.map_reverse]
      rw [e]
      rw [← List.length_map (f := W.int)] at l1 l2 l3
      generalize (cutW ys none (some 1)).map W.int = A at s1 l1 ⊢
      generalize (cutW ys (some 1) (some (-1))).map W.int = B at s2 l2 ⊢
      generalize (cutW ys (some (-1)) none).map W.int = C at s3 l3 ⊢
      have a1 := addTup (a := A) (b := B.reverse) (by rw [List.length_reverse]; show _ ≤ 16777216; omega)
      have a2 := addTup (a := A ++ B.reverse) (b := C) (by rw [List.length_append, List.length_reverse]; show _ ≤ 16777216; omega)
      generalize A ++ B.reverse = AB at a1 a2 ⊢
      generalize AB ++ C = ABC at a2 ⊢
      generalize tupI ys = Y at ln lk s1 s2 s3 ⊢
      simp [law_s2b_s2, law_s2b_s2a_t0, law_s2b_s2a_s0, e0, q1, fEqD_i, ln, lk, q2', s1, s2, s3, a1, a2]
    · have q2' : ¬ ((2 : Int) < (ys.length : Int)) := by omega
      exact ⟨ys, by omega, by simp [law_s2b_s2, e0, q1, fEqD_i, ln, lk, q2']⟩
  · exact ⟨ys, by omega, by simp [law_s2b_s2, e0, q1, fEqD_i]⟩
theorem none_ok (hc : ∀ xs ∈ rs, canon xs = xs) (h6 : rs.length ≤ 6) (zs : List Int) (hl : zs.length ≤ 33) (h : chainB rs zs = false) {x2 x3 x4 x6 x7 : SV} (hx2 : x2 = .own (layC rs) ∨ x2 = .val (lay rs)) {G : List Cell} : law_s2b_s3 ⟨[x0, .val (.lst (rs.map lstI)), x2, x3, x4, .val (tupI zs), x6, x7, .non], G⟩ = some (.ok .nx, ⟨[x0, .val (.lst (rs.map lstI)), .val (lay rs), x3, x4, .val (tupI zs), x6, x7, .non], G⟩) := by
  have v := x_valid rs hc h6 zs (by omega) G
  rw [h] at v
  have r := x_refused rs hc h6 zs (by omega) h G
  generalize tupI zs = C at v r ⊢
  rcases hx2 with rfl | rfl <;> simp [law_s2b_s3, v, r]
theorem pop0_step {f : Cell → List W → Option (W × Cell)} {x1 x2 x3 x4 x5 x6 : SV} {G : List Cell} {n : Nat} {x : W} {l : List W} (hg : G[n]? = some (.lst (x :: l))) (pop : f (.lst (x :: l)) [.int 0] = some (x, .lst l)) :
    mDrop (mMut .lst f (mName 7) (mCons (mC (.int 0)) mNil)) ⟨[x0, x1, x2, x3, x4, x5, x6, .val (.ref n), .non], G⟩ = some (.ok .nx, ⟨[x0, x1, x2, x3, x4, x5, x6, .val (.ref n), .non], G.set n (.lst l)⟩) := by
  simp [hg, pop]
theorem some_ok (hc : ∀ xs ∈ rs, canon xs = xs) (h6 : rs.length ≤ 6) (zs : List Int) (hl : zs.length ≤ 33) (h : chainB rs zs = true) {x2 x3 x4 x6 x7 : SV} (hx2 : x2 = .own (layC rs) ∨ x2 = .val (lay rs)) {G : List Cell} : ∃ x6' x7' G', law_s2b_s3 ⟨[x0, .val (.lst (rs.map lstI)), x2, x3, x4, .val (tupI zs), x6, x7, .non], G⟩ = some (.ok .nx, ⟨[x0, .val (.lst (rs.map lstI)), .val (lay rs), x3, x4, .val (tupI zs), x6', x7', .non], G'⟩) := by
  have v := x_valid rs hc h6 zs (by omega) G
  rw [h] at v
  have hp : isPathB rs.length zs = true := by
    unfold chainB at h
    simp only [Bool.and_eq_true] at h
    exact h.1
  obtain ⟨ps, t, rfl⟩ := path_form hp
  rw [chain_form, hp, Bool.true_and] at h
  obtain ⟨h2, -, hps, ht⟩ := path_in hp
  have pl : ps.length ≤ 33 := by
    have : (intsN (ps ++ [t])).length = (ps ++ [t]).length := by simp [intsN]
    rw [List.length_append] at this
    omega
  have ro := fun G => x_run_of rs ps t hc h2 (by omega) hps ht h G
  have rn := fun G => x_run_some rs hc h6 ps t (by omega) hp h G
  have ty : tupI (intsN (ps ++ [t])) = .tup (numsW (ps ++ [t])) := (natT_e _).symm
  rw [← ty] at ro rn
  have rl := run_len (cs := ps ++ [t]) (keys := chainKeys rs ps t)
  have rw_ := run_word (cs := ps ++ [t]) (keys := chainKeys rs ps t)
  have ll : (ps ++ [t]).length ≤ 34 := by rw [List.length_append, List.length_singleton]; omega
  generalize tupI (intsN (ps ++ [t])) = C at v ro rn ⊢
  generalize runS (ps ++ [t]) (chainKeys rs ps t) = st at ro rn rl rw_
  have ss := fun (R : W) (G : List Cell) hR => x_same_steps (R := R) st rw_ (by omega) G hR
  have z1 : 1 ≤ sz := by decide
  have zl : (st.map stepW).length < sz := by
    rw [List.length_map]
    show _ < 16777216
    omega
  have ap : fAppend (.lst (st.map stepW)) [.tup [.str "settle"]] = some (.non, .lst (st.map stepW ++ [.tup [.str "settle"]])) := if_pos zl
  generalize st.map stepW = D at *
  obtain ⟨y, l, yl⟩ : ∃ y l, D ++ [.tup [.str "settle"]] = y :: l := by
    cases D with
    | nil => exact ⟨_, _, rfl⟩
    | cons a b => exact ⟨_, _, rfl⟩
  rw [yl] at ap
  have s1 : law_s2b_s3 ⟨[x0, .val (.lst (rs.map lstI)), x2, x3, x4, .val C, x6, x7, .non], G⟩ = law_s2b_s3e_t2 ⟨[x0, .val (.lst (rs.map lstI)), .val (lay rs), x3, x4, .val C, .own (.lst D), .val (.ref G.length), .non], G ++ [.lst D]⟩ := by
    rcases hx2 with rfl | rfl <;> simp [law_s2b_s3, v, law_s2b_s3e_t0, law_s2b_s3e_s0, law_s2b_s3e_t1, law_s2b_s3e_s1, ro, rn]
  have s2 : law_s2b_s3e_s2 ⟨[x0, .val (.lst (rs.map lstI)), .val (lay rs), x3, x4, .val C, .own (.lst D), .val (.ref G.length), .non], G ++ [.lst D]⟩ = some (.ok .nx, ⟨[x0, .val (.lst (rs.map lstI)), .val (lay rs), x3, x4, .val C, .val (.lst D), .val (.ref G.length), .non], G ++ [.lst D]⟩) := by
    have s := ss (.ref G.length) (G ++ [.lst D]) (fun r => by simp)
    simp [law_s2b_s3e_s2, s]
  have s3 : law_s2b_s3e_s3 ⟨[x0, .val (.lst (rs.map lstI)), .val (lay rs), x3, x4, .val C, .val (.lst D), .val (.ref G.length), .non], G ++ [.lst D]⟩ = some (.ok .nx, ⟨[x0, .val (.lst (rs.map lstI)), .val (lay rs), x3, x4, .val C, .val (.lst D), .val (.ref G.length), .non], G ++ [.lst (y :: l)]⟩) := by
    simp [law_s2b_s3e_s3, z1, ap]
  have s4 : law_s2b_s3e_s4 ⟨[x0, .val (.lst (rs.map lstI)), .val (lay rs), x3, x4, .val C, .val (.lst D), .val (.ref G.length), .non], G ++ [.lst (y :: l)]⟩ = some (.ok .nx, ⟨[x0, .val (.lst (rs.map lstI)), .val (lay rs), x3, x4, .val C, .val (.lst D), .val (.ref G.length), .non], G ++ [.lst l]⟩) := by
    have := pop0_step (x0 := x0) (x1 := .val (.lst (rs.map lstI))) (x2 := .val (lay rs)) (x3 := x3) (x4 := x4) (x5 := .val C) (x6 := .val (.lst D)) (G := G ++ [.lst (y :: l)]) (n := G.length) (x := y) (l := l) (by simp) fPop0
    rw [show (G ++ [Cell.lst (y :: l)]).set G.length (.lst l) = G ++ [.lst l] by simp] at this
    exact this
  have s5 : law_s2b_s3e_s5 ⟨[x0, .val (.lst (rs.map lstI)), .val (lay rs), x3, x4, .val C, .val (.lst D), .val (.ref G.length), .non], G ++ [.lst l]⟩ = some (.ok .nx, ⟨[x0, .val (.lst (rs.map lstI)), .val (lay rs), x3, x4, .val C, .val (.lst D), .val (.ref G.length), .non], (G ++ [.lst l]) ++ [.lst D]⟩) := by
    have s := ss (.ref (G ++ [Cell.lst l]).length) ((G ++ [.lst l]) ++ [.lst D]) (fun r => by simp)
    generalize G ++ [Cell.lst l] = G1 at s ⊢
    simp [law_s2b_s3e_s5, rn, s]
  refine ⟨.val (.lst D), .val (.ref G.length), (G ++ [.lst l]) ++ [.lst D], ?_⟩
  rw [s1]
  unfold law_s2b_s3e_t2
  rw [seqt s2]
  unfold law_s2b_s3e_t3
  rw [seqt s3]
  unfold law_s2b_s3e_t4
  rw [seqt s4]
  exact s5
theorem body_ok {ns : List Int} (hc : ∀ xs ∈ rs, canon xs = xs) (h3 : 3 ≤ rs.length) (h6 : rs.length ≤ 6) (n : Nat) {x2 x4 x5 x6 x7 : SV} (hx2 : x2 = .own (layC rs) ∨ x2 = .val (lay rs)) (hx0 : x0 = .val (.frl (ns.map W.int))) (yn : ∀ n : Nat, ∀ G, m__law_cell [.frl (ns.map W.int), .int (n : Int)] G = some (.ok (.val (.int (ns.getD n 0))), G)) {G : List Cell} :
    ∃ x4' x5' x6' x7' G', law_s2b_t0 ⟨[x0, .val (.lst (rs.map lstI)), x2, .val (.int (n : Int)), x4, x5, x6, x7, .non], G⟩ = some (.ok .nx, ⟨[x0, .val (.lst (rs.map lstI)), .val (lay rs), .val (.int (n : Int)), x4', x5', x6', x7', .non], G'⟩) := by
  obtain ⟨xs, hx, hlen, -⟩ := x_numbers (ns.getD n 0) (5 + (n : Int)) ([6, 30, 64, 8] ++ List.replicate 7 8) (by decide +kernel) (by decide) G
  have hlen : xs.length = 11 := hlen
  have m7 := mul7 (.int 8)
  have ad : fAdd (.lst [.int 6, .int 30, .int 64, .int 8]) (.lst (List.replicate 7 (.int 8))) = _ := fAdd_ls (by show 11 ≤ 16777216; omega)
  rw [List.map_append, List.map_replicate] at hx
  have hx : m__law_numbers [.int (ns.getD n 0), .int (5 + (n : Int)), .lst ([.int 6, .int 30, .int 64, .int 8] ++ List.replicate 7 (.int 8))] G = _ := hx
  have z1 : 1 ≤ sz := by decide
  have z4 : 4 ≤ sz := by decide
  have s0 : law_s2b_s0 ⟨[x0, .val (.lst (rs.map lstI)), x2, .val (.int (n : Int)), x4, x5, x6, x7, .non], G⟩ = some (.ok .nx, ⟨[x0, .val (.lst (rs.map lstI)), x2, .val (.int (n : Int)), .own (.lst (xs.map W.int)), x5, x6, x7, .non], G⟩) := by
    subst hx0
    have yn := yn n
    generalize ns.getD n 0 = cn at yn hx
    generalize [W.int 6, .int 30, .int 64, .int 8] ++ List.replicate 7 (W.int 8) = LA at ad hx
    generalize List.replicate 7 (W.int 8) = LR at m7 ad
    generalize hX : xs.map W.int = XX at hx ⊢
    generalize hf : fMul = f at m7
    simp [law_s2b_s0, hf, yn, m7, ad, hx, z1, z4]
  obtain ⟨ys, yl, dr⟩ := x_drawn rs hc h3 h6 xs hlen G
  have s1 : law_s2b_s1 ⟨[x0, .val (.lst (rs.map lstI)), x2, .val (.int (n : Int)), .own (.lst (xs.map W.int)), x5, x6, x7, .non], G⟩ = some (.ok .nx, ⟨[x0, .val (.lst (rs.map lstI)), x2, .val (.int (n : Int)), .val (.lst (xs.map W.int)), .val (tupI ys), x6, x7, .non], G⟩) := by
    generalize xs.map W.int = XX at dr ⊢
    simp [law_s2b_s1, dr]
  have e0 : atI (xs.map W.int) 0 = some (.int (xs.getD 0 0)) := by
    have h : 0 < xs.length := by omega
    rw [getD_at h]
    exact atI_nat (j := 0) (by simp [h])
  obtain ⟨zs, zl, s2⟩ := turn_ok (x0 := x0) (rs := rs) ys yl _ e0 (x2 := x2) (x3 := .val (.int (n : Int))) (x6 := x6) (x7 := x7) (G := G)
  unfold law_s2b_t0
  rw [seqt s0]
  unfold law_s2b_t1
  rw [seqt s1]
  unfold law_s2b_t2
  rw [seqt s2]
  cases q : chainB rs zs with
  | false => exact ⟨_, _, _, _, _, none_ok hc h6 zs zl q hx2⟩
  | true =>
    obtain ⟨a, b, c, e⟩ := some_ok (x0 := x0) hc h6 zs zl q hx2 (x3 := .val (.int (n : Int))) (x4 := .val (.lst (xs.map W.int))) (x6 := x6) (x7 := x7) (G := G)
    exact ⟨_, _, _, _, _, e⟩
end
theorem says : Says m_law := by
  intro ns hl hb
  unfold m_law
  rw [fnM_o]
  have y0 : ∀ G, m__law_cell [.frl (ns.map W.int), .int 0] G = some (.ok (.val (.int (ns.getD 0 0))), G) := fun G => x_cell ns 0 G
  have yn : ∀ n : Nat, ∀ G, m__law_cell [.frl (ns.map W.int), .int (n : Int)] G = some (.ok (.val (.int (ns.getD n 0))), G) := fun n G => x_cell ns n G
  obtain ⟨rs, hrs, hr3, h6', hc⟩ := x_rows (ns.getD 0 0) 3 6 (by omega) (by omega) (by omega) []
  have h6 : rs.length ≤ 6 := by omega
  have h3 : 3 ≤ rs.length := by omega
  have ml := fun r => x_layout (r := r) (G := []) hc (by omega) (by omega)
  have lc := lc_copy (kk := ⟨rs.map lstI, none⟩) (i := 8) (st := fun v => ⟨[.val (.frl (ns.map W.int)), .val (.lst (rs.map lstI)), .non, .non, .non, .non, .non, .non, v], []⟩) rs h6 trivial (fun v => by simp) (fun v => by simp) (fun v => by simp) (fun ys => by simp [fList_lstI, lstI_w])
  rw [law_cut]
  show ∃ G', outF (law_t0 ⟨[.val (.frl (ns.map W.int)), .non, .non, .non, .non, .non, .non, .non, .non], []⟩) = _
  have start : law_t0 ⟨[.val (.frl (ns.map W.int)), .non, .non, .non, .non, .non, .non, .non, .non], []⟩ = law_t2 ⟨[.val (.frl (ns.map W.int)), .val (.lst (rs.map lstI)), .own (layC rs), .non, .non, .non, .non, .non, .non], []⟩ := by
    generalize ns.getD 0 0 = c0 at y0 hrs
    simp [law_t0, law_s0, law_t1, law_s1, y0, hrs, ml, lc]
  rw [start]
  have rk : Rk 1 ∧ Rk 7 := ⟨rk_small (by omega), rk_small (by omega)⟩
  simp [law_t2, law_s2, rk]
  generalize hF : forL _ _ _ _ = F
  obtain ⟨s', rfl, x2, x3, x4, x5, x6, x7, G', rfl, -⟩ := forL_at hF (fun i s => ∃ x2 x3 x4 x5 x6 x7 G, s = ⟨[.val (.frl (ns.map W.int)), .val (.lst (rs.map lstI)), x2, x3, x4, x5, x6, x7, .non], G⟩ ∧ (x2 = .own (layC rs) ∨ x2 = .val (lay rs))) ⟨_, _, _, _, _, _, _, rfl, .inl rfl⟩ (by
    rintro i hi s ⟨x2, x3, x4, x5, x6, x7, G, rfl, h2⟩
    have hi : i < 6 := by simpa [rngW] using hi
    have ei : (rngW 1 6)[i]'(by simpa [rngW] using hi) = W.int ((i + 1 : Nat) : Int) := by
      simp [rngW]
      omega
    rw [ei]
    obtain ⟨a, b, c, d, G', e⟩ := body_ok (x0 := .val (.frl (ns.map W.int))) hc h3 h6 (i + 1) (x4 := x4) (x5 := x5) (x6 := x6) (x7 := x7) h2 rfl yn (G := G)
    exact ⟨⟨[.val (.frl (ns.map W.int)), .val (.lst (rs.map lstI)), .val (lay rs), .val (.int ((i + 1 : Nat) : Int)), a, b, c, d, .non], G'⟩, by
      rw [bnd_at (tgN_e)]
      exact e, .val (lay rs), .val (.int ((i + 1 : Nat) : Int)), a, b, c, d, G', rfl, .inr rfl⟩)
  simp [law_t3, law_s3, outF]
end Z
namespace Z
open PySem PySem.Spec PyProof.Rows L2
theorem all_mk {l : PySem.W.OpenLaw} {w : World} {K : PySem.W.Frag} {h : Heap} {mg : Str → Option Value} {fa : Addr} (X : K.In h) (G : h.Ns mainGlobals mg) (hfa : mg "law" = some (.ref fa))
    {C_KeeperError C_BadLayout C_BadKey C_NoCopy C_LineError C_NoChain C_Layout f__law_numbers f__law_row f__law_rows f__law_cell f_Layout___init__ f__law_lines f__law_longer f__law_keys_of f__law_is_chain f__law_chains f__law_drawn f__law_valid f_Layout___len__ f_is_path f_lowest f_chain_keys f_chain_run f__law_refused f__law_run_of f__law_is_int f__law_same_steps f_law f_BadKey___init__ f_NoChain___init__ : Addr}
    {oc__law_numbers kV__law_numbers dc__law_numbers pm__law_numbers cd__law_numbers ct__law_numbers oc__law_row kV__law_row dc__law_row pm__law_row cd__law_row ct__law_row oc__law_rows kV__law_rows dc__law_rows pm__law_rows cd__law_rows ct__law_rows oc__law_cell kV__law_cell dc__law_cell pm__law_cell cd__law_cell ct__law_cell oc_Layout___init__ kV_Layout___init__ dc_Layout___init__ pm_Layout___init__ cd_Layout___init__ ct_Layout___init__ oc__law_lines kV__law_lines dc__law_lines pm__law_lines cd__law_lines ct__law_lines oc__law_longer kV__law_longer dc__law_longer pm__law_longer cd__law_longer ct__law_longer oc__law_keys_of kV__law_keys_of dc__law_keys_of pm__law_keys_of cd__law_keys_of ct__law_keys_of oc__law_is_chain kV__law_is_chain dc__law_is_chain pm__law_is_chain cd__law_is_chain ct__law_is_chain oc__law_chains kV__law_chains dc__law_chains pm__law_chains cd__law_chains ct__law_chains oc__law_drawn kV__law_drawn dc__law_drawn pm__law_drawn cd__law_drawn ct__law_drawn oc__law_valid kV__law_valid dc__law_valid pm__law_valid cd__law_valid ct__law_valid oc_Layout___len__ kV_Layout___len__ dc_Layout___len__ pm_Layout___len__ cd_Layout___len__ ct_Layout___len__ oc_is_path kV_is_path dc_is_path pm_is_path cd_is_path ct_is_path oc_lowest kV_lowest dc_lowest pm_lowest cd_lowest ct_lowest oc_chain_keys kV_chain_keys dc_chain_keys pm_chain_keys cd_chain_keys ct_chain_keys oc_chain_run kV_chain_run dc_chain_run pm_chain_run cd_chain_run ct_chain_run oc__law_refused kV__law_refused dc__law_refused pm__law_refused cd__law_refused ct__law_refused oc__law_run_of kV__law_run_of dc__law_run_of pm__law_run_of cd__law_run_of ct__law_run_of oc__law_is_int kV__law_is_int dc__law_is_int pm__law_is_int cd__law_is_int ct__law_is_int oc__law_same_steps kV__law_same_steps dc__law_same_steps pm__law_same_steps cd__law_same_steps ct__law_same_steps oc_law kV_law dc_law pm_law cd_law ct_law oc_BadKey___init__ kV_BadKey___init__ dc_BadKey___init__ pm_BadKey___init__ cd_BadKey___init__ ct_BadKey___init__ oc_NoChain___init__ kV_NoChain___init__ dc_NoChain___init__ pm_NoChain___init__ cd_NoChain___init__ ct_NoChain___init__ : Value}
    {od__law_numbers an__law_numbers od__law_row an__law_row od__law_rows an__law_rows od__law_cell an__law_cell od_Layout___init__ an_Layout___init__ od__law_lines an__law_lines od__law_longer an__law_longer od__law_keys_of an__law_keys_of od__law_is_chain an__law_is_chain od__law_chains an__law_chains od__law_drawn an__law_drawn od__law_valid an__law_valid od_Layout___len__ an_Layout___len__ od_is_path an_is_path od_lowest an_lowest od_chain_keys an_chain_keys od_chain_run an_chain_run od__law_refused an__law_refused od__law_run_of an__law_run_of od__law_is_int an__law_is_int od__law_same_steps an__law_same_steps od_law an_law od_BadKey___init__ an_BadKey___init__ od_NoChain___init__ an_NoChain___init__ : Option Addr}
    {sl__law_numbers sl__law_row sl__law_rows sl__law_cell sl_Layout___init__ sl__law_lines sl__law_longer sl__law_keys_of sl__law_is_chain sl__law_chains sl__law_drawn sl__law_valid sl_Layout___len__ sl_is_path sl_lowest sl_chain_keys sl_chain_run sl__law_refused sl__law_run_of sl__law_is_int sl__law_same_steps sl_law sl_BadKey___init__ sl_NoChain___init__ : Array (Option Value)}
    {tk_MOST_COPIES tk_MOST_KEYS : Tok}
    {nm_BadKey qq_BadKey : Str} {N_BadKey : Addr} {bs_BadKey sb_BadKey : List Value} {sn_BadKey : List Str} {ab_BadKey : Bool} {co_BadKey : Option Bool} {dd_BadKey : Option Addr} {m0_BadKey m1_BadKey m2_BadKey m3_BadKey m5_BadKey : Option Value}
    {nm_NoChain qq_NoChain : Str} {N_NoChain : Addr} {bs_NoChain sb_NoChain : List Value} {sn_NoChain : List Str} {ab_NoChain : Bool} {co_NoChain : Option Bool} {dd_NoChain : Option Addr} {m0_NoChain m1_NoChain m2_NoChain m3_NoChain m5_NoChain : Option Value}
    (aC_KeeperError : PySem.W.nsIn K mainGlobals "KeeperError" = some (some (.ref C_KeeperError)))
    (aC_BadLayout : PySem.W.nsIn K mainGlobals "BadLayout" = some (some (.ref C_BadLayout)))
    (aC_BadKey : PySem.W.nsIn K mainGlobals "BadKey" = some (some (.ref C_BadKey)))
    (aC_NoCopy : PySem.W.nsIn K mainGlobals "NoCopy" = some (some (.ref C_NoCopy)))
    (aC_LineError : PySem.W.nsIn K mainGlobals "LineError" = some (some (.ref C_LineError)))
    (aC_NoChain : PySem.W.nsIn K mainGlobals "NoChain" = some (some (.ref C_NoChain)))
    (aC_Layout : PySem.W.nsIn K mainGlobals "Layout" = some (some (.ref C_Layout)))
    (xf1_BadKey : PySem.W.findIn K (.ref C_BadKey) "__init__" = some (some (.ref f_BadKey___init__)))
    (xf1_NoChain : PySem.W.findIn K (.ref C_NoChain) "__init__" = some (some (.ref f_NoChain___init__)))
    (a__law_numbers : PySem.W.nsIn K mainGlobals "_law_numbers" = some (some (.ref f__law_numbers)))
    (a__law_row : PySem.W.nsIn K mainGlobals "_law_row" = some (some (.ref f__law_row)))
    (a__law_rows : PySem.W.nsIn K mainGlobals "_law_rows" = some (some (.ref f__law_rows)))
    (a__law_cell : PySem.W.nsIn K mainGlobals "_law_cell" = some (some (.ref f__law_cell)))
    (ma_Layout___init__ : PySem.W.findIn K (.ref C_Layout) "__init__" = some (some (.ref f_Layout___init__)))
    (a__law_lines : PySem.W.nsIn K mainGlobals "_law_lines" = some (some (.ref f__law_lines)))
    (a__law_longer : PySem.W.nsIn K mainGlobals "_law_longer" = some (some (.ref f__law_longer)))
    (a__law_keys_of : PySem.W.nsIn K mainGlobals "_law_keys_of" = some (some (.ref f__law_keys_of)))
    (a__law_is_chain : PySem.W.nsIn K mainGlobals "_law_is_chain" = some (some (.ref f__law_is_chain)))
    (a__law_chains : PySem.W.nsIn K mainGlobals "_law_chains" = some (some (.ref f__law_chains)))
    (a__law_drawn : PySem.W.nsIn K mainGlobals "_law_drawn" = some (some (.ref f__law_drawn)))
    (a__law_valid : PySem.W.nsIn K mainGlobals "_law_valid" = some (some (.ref f__law_valid)))
    (ma_Layout___len__ : PySem.W.findIn K (.ref C_Layout) "__len__" = some (some (.ref f_Layout___len__)))
    (a_is_path : PySem.W.nsIn K mainGlobals "is_path" = some (some (.ref f_is_path)))
    (a_lowest : PySem.W.nsIn K mainGlobals "lowest" = some (some (.ref f_lowest)))
    (a_chain_keys : PySem.W.nsIn K mainGlobals "chain_keys" = some (some (.ref f_chain_keys)))
    (a_chain_run : PySem.W.nsIn K mainGlobals "chain_run" = some (some (.ref f_chain_run)))
    (a__law_refused : PySem.W.nsIn K mainGlobals "_law_refused" = some (some (.ref f__law_refused)))
    (a__law_run_of : PySem.W.nsIn K mainGlobals "_law_run_of" = some (some (.ref f__law_run_of)))
    (a__law_is_int : PySem.W.nsIn K mainGlobals "_law_is_int" = some (some (.ref f__law_is_int)))
    (a__law_same_steps : PySem.W.nsIn K mainGlobals "_law_same_steps" = some (some (.ref f__law_same_steps)))
    (a_law : PySem.W.nsIn K mainGlobals "law" = some (some (.ref f_law)))
    (av_MOST_COPIES : PySem.W.nsIn K mainGlobals "MOST_COPIES" = some (some (.int 6 tk_MOST_COPIES)))
    (av_MOST_KEYS : PySem.W.nsIn K mainGlobals "MOST_KEYS" = some (some (.int 8 tk_MOST_KEYS)))
    (xL_BadKey : K.lookup C_BadKey = some (excClassObj nm_BadKey qq_BadKey C_BadKey N_BadKey bs_BadKey [.ref C_KeeperError, .type "ValueError", .type "Exception", .type "BaseException", .type "object"] true sn_BadKey sb_BadKey ab_BadKey co_BadKey dd_BadKey m0_BadKey m1_BadKey m2_BadKey m3_BadKey m5_BadKey "ValueError.__new__"))
    (xL_NoChain : K.lookup C_NoChain = some (excClassObj nm_NoChain qq_NoChain C_NoChain N_NoChain bs_NoChain [.ref C_KeeperError, .type "ValueError", .type "Exception", .type "BaseException", .type "object"] true sn_NoChain sb_NoChain ab_NoChain co_NoChain dd_NoChain m0_NoChain m1_NoChain m2_NoChain m3_NoChain m5_NoChain "ValueError.__new__"))
    (l__law_numbers : K.lookup f__law_numbers = some ⟨oc__law_numbers, od__law_numbers, .func (PySem.W.fnOf "_law_numbers" "_law_numbers" (defArgs s__law_numbers) (defBody s__law_numbers) (defScope s__law_numbers) .none kV__law_numbers dc__law_numbers pm__law_numbers an__law_numbers cd__law_numbers ct__law_numbers), sl__law_numbers⟩)
    (l__law_row : K.lookup f__law_row = some ⟨oc__law_row, od__law_row, .func (PySem.W.fnOf "_law_row" "_law_row" (defArgs s__law_row) (defBody s__law_row) (defScope s__law_row) .none kV__law_row dc__law_row pm__law_row an__law_row cd__law_row ct__law_row), sl__law_row⟩)
    (l__law_rows : K.lookup f__law_rows = some ⟨oc__law_rows, od__law_rows, .func (PySem.W.fnOf "_law_rows" "_law_rows" (defArgs s__law_rows) (defBody s__law_rows) (defScope s__law_rows) .none kV__law_rows dc__law_rows pm__law_rows an__law_rows cd__law_rows ct__law_rows), sl__law_rows⟩)
    (l__law_cell : K.lookup f__law_cell = some ⟨oc__law_cell, od__law_cell, .func (PySem.W.fnOf "_law_cell" "_law_cell" (defArgs s__law_cell) (defBody s__law_cell) (defScope s__law_cell) .none kV__law_cell dc__law_cell pm__law_cell an__law_cell cd__law_cell ct__law_cell), sl__law_cell⟩)
    (l_Layout___init__ : K.lookup f_Layout___init__ = some ⟨oc_Layout___init__, od_Layout___init__, .func (PySem.W.fnOf "__init__" "Layout.__init__" (defArgs s_Layout___init__) (defBody s_Layout___init__) (defScope s_Layout___init__) .none kV_Layout___init__ dc_Layout___init__ pm_Layout___init__ an_Layout___init__ cd_Layout___init__ ct_Layout___init__), sl_Layout___init__⟩)
    (l__law_lines : K.lookup f__law_lines = some ⟨oc__law_lines, od__law_lines, .func (PySem.W.fnOf "_law_lines" "_law_lines" (defArgs s__law_lines) (defBody s__law_lines) (defScope s__law_lines) .none kV__law_lines dc__law_lines pm__law_lines an__law_lines cd__law_lines ct__law_lines), sl__law_lines⟩)
    (l__law_longer : K.lookup f__law_longer = some ⟨oc__law_longer, od__law_longer, .func (PySem.W.fnOf "_law_longer" "_law_longer" (defArgs s__law_longer) (defBody s__law_longer) (defScope s__law_longer) .none kV__law_longer dc__law_longer pm__law_longer an__law_longer cd__law_longer ct__law_longer), sl__law_longer⟩)
    (l__law_keys_of : K.lookup f__law_keys_of = some ⟨oc__law_keys_of, od__law_keys_of, .func (PySem.W.fnOf "_law_keys_of" "_law_keys_of" (defArgs s__law_keys_of) (defBody s__law_keys_of) (defScope s__law_keys_of) .none kV__law_keys_of dc__law_keys_of pm__law_keys_of an__law_keys_of cd__law_keys_of ct__law_keys_of), sl__law_keys_of⟩)
    (l__law_is_chain : K.lookup f__law_is_chain = some ⟨oc__law_is_chain, od__law_is_chain, .func (PySem.W.fnOf "_law_is_chain" "_law_is_chain" (defArgs s__law_is_chain) (defBody s__law_is_chain) (defScope s__law_is_chain) .none kV__law_is_chain dc__law_is_chain pm__law_is_chain an__law_is_chain cd__law_is_chain ct__law_is_chain), sl__law_is_chain⟩)
    (l__law_chains : K.lookup f__law_chains = some ⟨oc__law_chains, od__law_chains, .func (PySem.W.fnOf "_law_chains" "_law_chains" (defArgs s__law_chains) (defBody s__law_chains) (defScope s__law_chains) .none kV__law_chains dc__law_chains pm__law_chains an__law_chains cd__law_chains ct__law_chains), sl__law_chains⟩)
    (l__law_drawn : K.lookup f__law_drawn = some ⟨oc__law_drawn, od__law_drawn, .func (PySem.W.fnOf "_law_drawn" "_law_drawn" (defArgs s__law_drawn) (defBody s__law_drawn) (defScope s__law_drawn) .none kV__law_drawn dc__law_drawn pm__law_drawn an__law_drawn cd__law_drawn ct__law_drawn), sl__law_drawn⟩)
    (l__law_valid : K.lookup f__law_valid = some ⟨oc__law_valid, od__law_valid, .func (PySem.W.fnOf "_law_valid" "_law_valid" (defArgs s__law_valid) (defBody s__law_valid) (defScope s__law_valid) .none kV__law_valid dc__law_valid pm__law_valid an__law_valid cd__law_valid ct__law_valid), sl__law_valid⟩)
    (l_Layout___len__ : K.lookup f_Layout___len__ = some ⟨oc_Layout___len__, od_Layout___len__, .func (PySem.W.fnOf "__len__" "Layout.__len__" (defArgs s_Layout___len__) (defBody s_Layout___len__) (defScope s_Layout___len__) .none kV_Layout___len__ dc_Layout___len__ pm_Layout___len__ an_Layout___len__ cd_Layout___len__ ct_Layout___len__), sl_Layout___len__⟩)
    (l_is_path : K.lookup f_is_path = some ⟨oc_is_path, od_is_path, .func (PySem.W.fnOf "is_path" "is_path" (defArgs s_is_path) (defBody s_is_path) (defScope s_is_path) .none kV_is_path dc_is_path pm_is_path an_is_path cd_is_path ct_is_path), sl_is_path⟩)
    (l_lowest : K.lookup f_lowest = some ⟨oc_lowest, od_lowest, .func (PySem.W.fnOf "lowest" "lowest" (defArgs s_lowest) (defBody s_lowest) (defScope s_lowest) .none kV_lowest dc_lowest pm_lowest an_lowest cd_lowest ct_lowest), sl_lowest⟩)
    (l_chain_keys : K.lookup f_chain_keys = some ⟨oc_chain_keys, od_chain_keys, .func (PySem.W.fnOf "chain_keys" "chain_keys" (defArgs s_chain_keys) (defBody s_chain_keys) (defScope s_chain_keys) .none kV_chain_keys dc_chain_keys pm_chain_keys an_chain_keys cd_chain_keys ct_chain_keys), sl_chain_keys⟩)
    (l_chain_run : K.lookup f_chain_run = some ⟨oc_chain_run, od_chain_run, .func (PySem.W.fnOf "chain_run" "chain_run" (defArgs s_chain_run) (defBody s_chain_run) (defScope s_chain_run) .none kV_chain_run dc_chain_run pm_chain_run an_chain_run cd_chain_run ct_chain_run), sl_chain_run⟩)
    (l__law_refused : K.lookup f__law_refused = some ⟨oc__law_refused, od__law_refused, .func (PySem.W.fnOf "_law_refused" "_law_refused" (defArgs s__law_refused) (defBody s__law_refused) (defScope s__law_refused) .none kV__law_refused dc__law_refused pm__law_refused an__law_refused cd__law_refused ct__law_refused), sl__law_refused⟩)
    (l__law_run_of : K.lookup f__law_run_of = some ⟨oc__law_run_of, od__law_run_of, .func (PySem.W.fnOf "_law_run_of" "_law_run_of" (defArgs s__law_run_of) (defBody s__law_run_of) (defScope s__law_run_of) .none kV__law_run_of dc__law_run_of pm__law_run_of an__law_run_of cd__law_run_of ct__law_run_of), sl__law_run_of⟩)
    (l__law_is_int : K.lookup f__law_is_int = some ⟨oc__law_is_int, od__law_is_int, .func (PySem.W.fnOf "_law_is_int" "_law_is_int" (defArgs s__law_is_int) (defBody s__law_is_int) (defScope s__law_is_int) .none kV__law_is_int dc__law_is_int pm__law_is_int an__law_is_int cd__law_is_int ct__law_is_int), sl__law_is_int⟩)
    (l__law_same_steps : K.lookup f__law_same_steps = some ⟨oc__law_same_steps, od__law_same_steps, .func (PySem.W.fnOf "_law_same_steps" "_law_same_steps" (defArgs s__law_same_steps) (defBody s__law_same_steps) (defScope s__law_same_steps) .none kV__law_same_steps dc__law_same_steps pm__law_same_steps an__law_same_steps cd__law_same_steps ct__law_same_steps), sl__law_same_steps⟩)
    (l_law : K.lookup f_law = some ⟨oc_law, od_law, .func (PySem.W.fnOf "law" "law" (defArgs s_law) (defBody s_law) (defScope s_law) .none kV_law dc_law pm_law an_law cd_law ct_law), sl_law⟩)
    (l_BadKey___init__ : K.lookup f_BadKey___init__ = some ⟨oc_BadKey___init__, od_BadKey___init__, .func (PySem.W.fnOf "__init__" "BadKey.__init__" (defArgs s_BadKey___init__) (defBody s_BadKey___init__) (defScope s_BadKey___init__) .none kV_BadKey___init__ dc_BadKey___init__ pm_BadKey___init__ an_BadKey___init__ cd_BadKey___init__ ct_BadKey___init__), sl_BadKey___init__⟩)
    (l_NoChain___init__ : K.lookup f_NoChain___init__ = some ⟨oc_NoChain___init__, od_NoChain___init__, .func (PySem.W.fnOf "__init__" "NoChain.__init__" (defArgs s_NoChain___init__) (defBody s_NoChain___init__) (defScope s_NoChain___init__) .none kV_NoChain___init__ dc_NoChain___init__ pm_NoChain___init__ an_NoChain___init__ cd_NoChain___init__ ct_NoChain___init__), sl_NoChain___init__⟩)
    (z_all : PySem.W.nsIn K mainGlobals "all" = some none)
    (z_any : PySem.W.nsIn K mainGlobals "any" = some none)
    (z_bool : PySem.W.nsIn K mainGlobals "bool" = some none)
    (z_int : PySem.W.nsIn K mainGlobals "int" = some none)
    (z_isinstance : PySem.W.nsIn K mainGlobals "isinstance" = some none)
    (z_len : PySem.W.nsIn K mainGlobals "len" = some none)
    (z_list : PySem.W.nsIn K mainGlobals "list" = some none)
    (z_range : PySem.W.nsIn K mainGlobals "range" = some none)
    (z_set : PySem.W.nsIn K mainGlobals "set" = some none)
    (z_str : PySem.W.nsIn K mainGlobals "str" = some none)
    (z_sum : PySem.W.nsIn K mainGlobals "sum" = some none)
    (z_tuple : PySem.W.nsIn K mainGlobals "tuple" = some none)
    (kp_KeeperError : PySem.W.keepIn K (.ref C_KeeperError) = true)
    (kp_BadLayout : PySem.W.keepIn K (.ref C_BadLayout) = true)
    (kp_BadKey : PySem.W.keepIn K (.ref C_BadKey) = true)
    (kp_NoCopy : PySem.W.keepIn K (.ref C_NoCopy) = true)
    (kp_LineError : PySem.W.keepIn K (.ref C_LineError) = true)
    (kp_NoChain : PySem.W.keepIn K (.ref C_NoChain) = true)
    (kp_Layout : PySem.W.keepIn K (.ref C_Layout) = true)
    (pg_Layout : PySem.W.plainGet K C_Layout Str.empty = true)
    (hd_Layout : PySem.W.hasDictIn K C_Layout = true)
    (po_Layout : PySem.W.plainOver K C_Layout = true)
    (sa_Layout : PySem.W.findIn K (.ref C_Layout) "__setattr__" = some (some (.builtin "object.__setattr__")))
    (mk_Layout : PySem.W.makesIn K C_Layout = true)
    (ha_Layout : PySem.W.findIn K (.ref C_Layout) "__class__" = some (some (.builtin "object.__class__")))
    (hm_Layout : PySem.W.mroIn K C_Layout (.type "object") = some true)
    (me_Layout : PySem.W.kitOne K (.ref C_Layout) (.ref C_Layout) = some true)
    (sp_get : PySem.W.specialIn K (.builtin "object.__class__") "__get__" = some (some (.builtin "getset_descriptor.__get__")))
    (tk_cls : PySem.W.takesIn K (.builtin "object.__class__") = some true)
    (nA_Layout_masks : PySem.W.findIn K (.ref C_Layout) "masks" = some none)
    (nA_Layout_rows : PySem.W.findIn K (.ref C_Layout) "rows" = some none)
    (xA_NoChain_chain : PySem.W.findIn K (.ref C_NoChain) "chain" = some none)
    (ik_Layout_bool : PySem.W.kitOne K (.ref C_Layout) (.type "bool") = some false)
    (ik_Layout_int : PySem.W.kitOne K (.ref C_Layout) (.type "int") = some false)
    (ik_Layout_list : PySem.W.kitOne K (.ref C_Layout) (.type "list") = some false)
    (ik_Layout_str : PySem.W.kitOne K (.ref C_Layout) (.type "str") = some false)
    (ik_Layout_tuple : PySem.W.kitOne K (.ref C_Layout) (.type "tuple") = some false)
    (eg_KeeperError : PySem.W.findIn K (.ref C_KeeperError) "__getattribute__" = some (some (.builtin "BaseException.__getattribute__")))
    (ek_KeeperError : PySem.W.findIn K (.ref C_KeeperError) "__getattr__" = some none)
    (es_KeeperError : PySem.W.subIn K (.ref C_KeeperError) (.type "BaseException") = some true)
    (ed_KeeperError : PySem.W.hasDictIn K C_KeeperError = true)
    (ea_KeeperError : PySem.W.findIn K (.ref C_KeeperError) "__class__" = some (some (.builtin "object.__class__")))
    (em_KeeperError : PySem.W.mroIn K C_KeeperError (.type "object") = some true)
    (eg_BadLayout : PySem.W.findIn K (.ref C_BadLayout) "__getattribute__" = some (some (.builtin "BaseException.__getattribute__")))
    (ek_BadLayout : PySem.W.findIn K (.ref C_BadLayout) "__getattr__" = some none)
    (es_BadLayout : PySem.W.subIn K (.ref C_BadLayout) (.type "BaseException") = some true)
    (ed_BadLayout : PySem.W.hasDictIn K C_BadLayout = true)
    (ea_BadLayout : PySem.W.findIn K (.ref C_BadLayout) "__class__" = some (some (.builtin "object.__class__")))
    (em_BadLayout : PySem.W.mroIn K C_BadLayout (.type "object") = some true)
    (eg_BadKey : PySem.W.findIn K (.ref C_BadKey) "__getattribute__" = some (some (.builtin "BaseException.__getattribute__")))
    (ek_BadKey : PySem.W.findIn K (.ref C_BadKey) "__getattr__" = some none)
    (es_BadKey : PySem.W.subIn K (.ref C_BadKey) (.type "BaseException") = some true)
    (ed_BadKey : PySem.W.hasDictIn K C_BadKey = true)
    (ea_BadKey : PySem.W.findIn K (.ref C_BadKey) "__class__" = some (some (.builtin "object.__class__")))
    (em_BadKey : PySem.W.mroIn K C_BadKey (.type "object") = some true)
    (eg_NoCopy : PySem.W.findIn K (.ref C_NoCopy) "__getattribute__" = some (some (.builtin "BaseException.__getattribute__")))
    (ek_NoCopy : PySem.W.findIn K (.ref C_NoCopy) "__getattr__" = some none)
    (es_NoCopy : PySem.W.subIn K (.ref C_NoCopy) (.type "BaseException") = some true)
    (ed_NoCopy : PySem.W.hasDictIn K C_NoCopy = true)
    (ea_NoCopy : PySem.W.findIn K (.ref C_NoCopy) "__class__" = some (some (.builtin "object.__class__")))
    (em_NoCopy : PySem.W.mroIn K C_NoCopy (.type "object") = some true)
    (eg_LineError : PySem.W.findIn K (.ref C_LineError) "__getattribute__" = some (some (.builtin "BaseException.__getattribute__")))
    (ek_LineError : PySem.W.findIn K (.ref C_LineError) "__getattr__" = some none)
    (es_LineError : PySem.W.subIn K (.ref C_LineError) (.type "BaseException") = some true)
    (ed_LineError : PySem.W.hasDictIn K C_LineError = true)
    (ea_LineError : PySem.W.findIn K (.ref C_LineError) "__class__" = some (some (.builtin "object.__class__")))
    (em_LineError : PySem.W.mroIn K C_LineError (.type "object") = some true)
    (eg_NoChain : PySem.W.findIn K (.ref C_NoChain) "__getattribute__" = some (some (.builtin "BaseException.__getattribute__")))
    (ek_NoChain : PySem.W.findIn K (.ref C_NoChain) "__getattr__" = some none)
    (es_NoChain : PySem.W.subIn K (.ref C_NoChain) (.type "BaseException") = some true)
    (ed_NoChain : PySem.W.hasDictIn K C_NoChain = true)
    (ea_NoChain : PySem.W.findIn K (.ref C_NoChain) "__class__" = some (some (.builtin "object.__class__")))
    (em_NoChain : PySem.W.mroIn K C_NoChain (.type "object") = some true)
    (jk_NoChain_KeeperError : PySem.W.kitOne K (.ref C_NoChain) (.ref C_KeeperError) = some true)
    (jk_LineError_KeeperError : PySem.W.kitOne K (.ref C_LineError) (.ref C_KeeperError) = some true)
    (jk_NoCopy_KeeperError : PySem.W.kitOne K (.ref C_NoCopy) (.ref C_KeeperError) = some true)
    (jk_BadKey_KeeperError : PySem.W.kitOne K (.ref C_BadKey) (.ref C_KeeperError) = some true)
    (jk_BadLayout_KeeperError : PySem.W.kitOne K (.ref C_BadLayout) (.ref C_KeeperError) = some true)
    (jk_KeeperError_KeeperError : PySem.W.kitOne K (.ref C_KeeperError) (.ref C_KeeperError) = some true)
    (jk_NoChain_LineError : PySem.W.kitOne K (.ref C_NoChain) (.ref C_LineError) = some false)
    (jk_LineError_LineError : PySem.W.kitOne K (.ref C_LineError) (.ref C_LineError) = some true)
    (jk_NoCopy_LineError : PySem.W.kitOne K (.ref C_NoCopy) (.ref C_LineError) = some false)
    (jk_BadKey_LineError : PySem.W.kitOne K (.ref C_BadKey) (.ref C_LineError) = some false)
    (jk_BadLayout_LineError : PySem.W.kitOne K (.ref C_BadLayout) (.ref C_LineError) = some false)
    (jk_KeeperError_LineError : PySem.W.kitOne K (.ref C_KeeperError) (.ref C_LineError) = some false)
    (hb_NoChain : PySem.W.subIn K (.ref C_NoChain) (.type "BaseException") = some true)
    (hdd_NoChain : PySem.W.hasDictIn K C_NoChain = true)
    (ht_NoChain : PySem.W.typeIn K (.ref C_NoChain) = some (.type "type"))
    (hs_NoChain_NoChain : PySem.W.subIn K (.ref C_NoChain) (.ref C_NoChain) = some true)
    (hs_LineError_NoChain : PySem.W.subIn K (.ref C_LineError) (.ref C_NoChain) = some false)
    (hs_NoCopy_NoChain : PySem.W.subIn K (.ref C_NoCopy) (.ref C_NoChain) = some false)
    (hs_BadKey_NoChain : PySem.W.subIn K (.ref C_BadKey) (.ref C_NoChain) = some false)
    (hs_BadLayout_NoChain : PySem.W.subIn K (.ref C_BadLayout) (.ref C_NoChain) = some false)
    (hs_KeeperError_NoChain : PySem.W.subIn K (.ref C_KeeperError) (.ref C_NoChain) = some false)
    (xs_BadKey : PySem.W.findIn K (.ref C_BadKey) "__setattr__" = some (some (.builtin "object.__setattr__")))
    (xe_BadKey : PySem.W.subIn K (.ref C_BadKey) (.type "BaseException") = some true)
    (xy_BadKey : PySem.W.typeIn K (.ref C_BadKey) = some (.type "type"))
    (xq_BadKey_key : PySem.W.findIn K (.ref C_BadKey) "key" = some none)
    (xf2_BadKey : PySem.W.typeIn K (.ref f_BadKey___init__) = some (.type "function"))
    (xi_BadLayout : PySem.W.excIn K C_BadLayout [.type "ValueError", .type "Exception", .type "BaseException", .type "object"] "ValueError.__new__" = true)
    (xb_BadLayout : PySem.W.subIn K (.ref C_BadLayout) (.type "BaseException") = some true)
    (xt_BadLayout : PySem.W.typeIn K (.ref C_BadLayout) = some (.type "type"))
    (xs_NoChain : PySem.W.findIn K (.ref C_NoChain) "__setattr__" = some (some (.builtin "object.__setattr__")))
    (xe_NoChain : PySem.W.subIn K (.ref C_NoChain) (.type "BaseException") = some true)
    (xy_NoChain : PySem.W.typeIn K (.ref C_NoChain) = some (.type "type"))
    (xq_NoChain_chain : PySem.W.findIn K (.ref C_NoChain) "chain" = some none)
    (xf2_NoChain : PySem.W.typeIn K (.ref f_NoChain___init__) = some (.type "function"))
    (cc__law_numbers : PySem.W.codeIn K cd__law_numbers "_law_numbers" = true)
    (kk__law_numbers : PySem.W.keepIn K (.ref f__law_numbers) = true)
    (cc__law_row : PySem.W.codeIn K cd__law_row "_law_row" = true)
    (kk__law_row : PySem.W.keepIn K (.ref f__law_row) = true)
    (cc__law_rows : PySem.W.codeIn K cd__law_rows "_law_rows" = true)
    (kk__law_rows : PySem.W.keepIn K (.ref f__law_rows) = true)
    (cc__law_cell : PySem.W.codeIn K cd__law_cell "_law_cell" = true)
    (kk__law_cell : PySem.W.keepIn K (.ref f__law_cell) = true)
    (cc_Layout___init__ : PySem.W.codeIn K cd_Layout___init__ "Layout.__init__" = true)
    (kk_Layout___init__ : PySem.W.keepIn K (.ref f_Layout___init__) = true)
    (mf_Layout___init__ : PySem.W.isFn K (.ref f_Layout___init__) = true)
    (cc__law_lines : PySem.W.codeIn K cd__law_lines "_law_lines" = true)
    (kk__law_lines : PySem.W.keepIn K (.ref f__law_lines) = true)
    (cc__law_longer : PySem.W.codeIn K cd__law_longer "_law_longer" = true)
    (kk__law_longer : PySem.W.keepIn K (.ref f__law_longer) = true)
    (cc__law_keys_of : PySem.W.codeIn K cd__law_keys_of "_law_keys_of" = true)
    (kk__law_keys_of : PySem.W.keepIn K (.ref f__law_keys_of) = true)
    (cc__law_is_chain : PySem.W.codeIn K cd__law_is_chain "_law_is_chain" = true)
    (kk__law_is_chain : PySem.W.keepIn K (.ref f__law_is_chain) = true)
    (cc__law_chains : PySem.W.codeIn K cd__law_chains "_law_chains" = true)
    (kk__law_chains : PySem.W.keepIn K (.ref f__law_chains) = true)
    (cc__law_drawn : PySem.W.codeIn K cd__law_drawn "_law_drawn" = true)
    (kk__law_drawn : PySem.W.keepIn K (.ref f__law_drawn) = true)
    (cc__law_valid : PySem.W.codeIn K cd__law_valid "_law_valid" = true)
    (kk__law_valid : PySem.W.keepIn K (.ref f__law_valid) = true)
    (cc_Layout___len__ : PySem.W.codeIn K cd_Layout___len__ "Layout.__len__" = true)
    (kk_Layout___len__ : PySem.W.keepIn K (.ref f_Layout___len__) = true)
    (mf_Layout___len__ : PySem.W.isFn K (.ref f_Layout___len__) = true)
    (cc_is_path : PySem.W.codeIn K cd_is_path "is_path" = true)
    (kk_is_path : PySem.W.keepIn K (.ref f_is_path) = true)
    (cc_lowest : PySem.W.codeIn K cd_lowest "lowest" = true)
    (kk_lowest : PySem.W.keepIn K (.ref f_lowest) = true)
    (cc_chain_keys : PySem.W.codeIn K cd_chain_keys "chain_keys" = true)
    (kk_chain_keys : PySem.W.keepIn K (.ref f_chain_keys) = true)
    (cc_chain_run : PySem.W.codeIn K cd_chain_run "chain_run" = true)
    (kk_chain_run : PySem.W.keepIn K (.ref f_chain_run) = true)
    (cc__law_refused : PySem.W.codeIn K cd__law_refused "_law_refused" = true)
    (kk__law_refused : PySem.W.keepIn K (.ref f__law_refused) = true)
    (cc__law_run_of : PySem.W.codeIn K cd__law_run_of "_law_run_of" = true)
    (kk__law_run_of : PySem.W.keepIn K (.ref f__law_run_of) = true)
    (cc__law_is_int : PySem.W.codeIn K cd__law_is_int "_law_is_int" = true)
    (kk__law_is_int : PySem.W.keepIn K (.ref f__law_is_int) = true)
    (cc__law_same_steps : PySem.W.codeIn K cd__law_same_steps "_law_same_steps" = true)
    (kk__law_same_steps : PySem.W.keepIn K (.ref f__law_same_steps) = true)
    (cc_law : PySem.W.codeIn K cd_law "law" = true)
    (kk_law : PySem.W.keepIn K (.ref f_law) = true)
    (cc_BadKey___init__ : PySem.W.codeIn K cd_BadKey___init__ "BadKey.__init__" = true)
    (kk_BadKey___init__ : PySem.W.keepIn K (.ref f_BadKey___init__) = true)
    (cc_NoChain___init__ : PySem.W.codeIn K cd_NoChain___init__ "NoChain.__init__" = true)
    (kk_NoChain___init__ : PySem.W.keepIn K (.ref f_NoChain___init__) = true)
    : ∃ fd : FuncData, (∀ (s : Shared) (v : Value), BindsTo s fd ⟨[v], []⟩ [("_law_script", v)]) ∧ ∀ base : Heap, K.In base → base.Ns mainGlobals mg → FnOk l.prog w K mg base (L2.CX l.prog w) 7 fa fd ["_law_script"] (spLaw K) := by
  have e : f_law = fa := (Value.ref.inj (Option.some.inj (hfa.symm.trans (PySem.W.mg_of X G a_law)))).symm
  subst e
  have in_Layout : C8.InsC K C_Layout := ⟨⟨pg_Layout, hd_Layout, po_Layout, sa_Layout⟩, ha_Layout, sp_get, tk_cls, hm_Layout, me_Layout⟩
  let T : Tx l.prog K mg := {
    C_KeeperError := C_KeeperError
    C_BadLayout := C_BadLayout
    C_BadKey := C_BadKey
    C_NoCopy := C_NoCopy
    C_LineError := C_LineError
    C_NoChain := C_NoChain
    C_Layout := C_Layout
    f__law_numbers := f__law_numbers
    f__law_row := f__law_row
    f__law_rows := f__law_rows
    f__law_cell := f__law_cell
    f_Layout___init__ := f_Layout___init__
    f__law_lines := f__law_lines
    f__law_longer := f__law_longer
    f__law_keys_of := f__law_keys_of
    f__law_is_chain := f__law_is_chain
    f__law_chains := f__law_chains
    f__law_drawn := f__law_drawn
    f__law_valid := f__law_valid
    f_Layout___len__ := f_Layout___len__
    f_is_path := f_is_path
    f_lowest := f_lowest
    f_chain_keys := f_chain_keys
    f_chain_run := f_chain_run
    f__law_refused := f__law_refused
    f__law_run_of := f__law_run_of
    f__law_is_int := f__law_is_int
    f__law_same_steps := f__law_same_steps
    f_law := f_law
    f_BadKey___init__ := f_BadKey___init__
    f_NoChain___init__ := f_NoChain___init__
    fd__law_numbers := PySem.W.fnOf "_law_numbers" "_law_numbers" (defArgs s__law_numbers) (defBody s__law_numbers) (defScope s__law_numbers) .none kV__law_numbers dc__law_numbers pm__law_numbers an__law_numbers cd__law_numbers ct__law_numbers
    fd__law_row := PySem.W.fnOf "_law_row" "_law_row" (defArgs s__law_row) (defBody s__law_row) (defScope s__law_row) .none kV__law_row dc__law_row pm__law_row an__law_row cd__law_row ct__law_row
    fd__law_rows := PySem.W.fnOf "_law_rows" "_law_rows" (defArgs s__law_rows) (defBody s__law_rows) (defScope s__law_rows) .none kV__law_rows dc__law_rows pm__law_rows an__law_rows cd__law_rows ct__law_rows
    fd__law_cell := PySem.W.fnOf "_law_cell" "_law_cell" (defArgs s__law_cell) (defBody s__law_cell) (defScope s__law_cell) .none kV__law_cell dc__law_cell pm__law_cell an__law_cell cd__law_cell ct__law_cell
    fd_Layout___init__ := PySem.W.fnOf "__init__" "Layout.__init__" (defArgs s_Layout___init__) (defBody s_Layout___init__) (defScope s_Layout___init__) .none kV_Layout___init__ dc_Layout___init__ pm_Layout___init__ an_Layout___init__ cd_Layout___init__ ct_Layout___init__
    fd__law_lines := PySem.W.fnOf "_law_lines" "_law_lines" (defArgs s__law_lines) (defBody s__law_lines) (defScope s__law_lines) .none kV__law_lines dc__law_lines pm__law_lines an__law_lines cd__law_lines ct__law_lines
    fd__law_longer := PySem.W.fnOf "_law_longer" "_law_longer" (defArgs s__law_longer) (defBody s__law_longer) (defScope s__law_longer) .none kV__law_longer dc__law_longer pm__law_longer an__law_longer cd__law_longer ct__law_longer
    fd__law_keys_of := PySem.W.fnOf "_law_keys_of" "_law_keys_of" (defArgs s__law_keys_of) (defBody s__law_keys_of) (defScope s__law_keys_of) .none kV__law_keys_of dc__law_keys_of pm__law_keys_of an__law_keys_of cd__law_keys_of ct__law_keys_of
    fd__law_is_chain := PySem.W.fnOf "_law_is_chain" "_law_is_chain" (defArgs s__law_is_chain) (defBody s__law_is_chain) (defScope s__law_is_chain) .none kV__law_is_chain dc__law_is_chain pm__law_is_chain an__law_is_chain cd__law_is_chain ct__law_is_chain
    fd__law_chains := PySem.W.fnOf "_law_chains" "_law_chains" (defArgs s__law_chains) (defBody s__law_chains) (defScope s__law_chains) .none kV__law_chains dc__law_chains pm__law_chains an__law_chains cd__law_chains ct__law_chains
    fd__law_drawn := PySem.W.fnOf "_law_drawn" "_law_drawn" (defArgs s__law_drawn) (defBody s__law_drawn) (defScope s__law_drawn) .none kV__law_drawn dc__law_drawn pm__law_drawn an__law_drawn cd__law_drawn ct__law_drawn
    fd__law_valid := PySem.W.fnOf "_law_valid" "_law_valid" (defArgs s__law_valid) (defBody s__law_valid) (defScope s__law_valid) .none kV__law_valid dc__law_valid pm__law_valid an__law_valid cd__law_valid ct__law_valid
    fd_Layout___len__ := PySem.W.fnOf "__len__" "Layout.__len__" (defArgs s_Layout___len__) (defBody s_Layout___len__) (defScope s_Layout___len__) .none kV_Layout___len__ dc_Layout___len__ pm_Layout___len__ an_Layout___len__ cd_Layout___len__ ct_Layout___len__
    fd_is_path := PySem.W.fnOf "is_path" "is_path" (defArgs s_is_path) (defBody s_is_path) (defScope s_is_path) .none kV_is_path dc_is_path pm_is_path an_is_path cd_is_path ct_is_path
    fd_lowest := PySem.W.fnOf "lowest" "lowest" (defArgs s_lowest) (defBody s_lowest) (defScope s_lowest) .none kV_lowest dc_lowest pm_lowest an_lowest cd_lowest ct_lowest
    fd_chain_keys := PySem.W.fnOf "chain_keys" "chain_keys" (defArgs s_chain_keys) (defBody s_chain_keys) (defScope s_chain_keys) .none kV_chain_keys dc_chain_keys pm_chain_keys an_chain_keys cd_chain_keys ct_chain_keys
    fd_chain_run := PySem.W.fnOf "chain_run" "chain_run" (defArgs s_chain_run) (defBody s_chain_run) (defScope s_chain_run) .none kV_chain_run dc_chain_run pm_chain_run an_chain_run cd_chain_run ct_chain_run
    fd__law_refused := PySem.W.fnOf "_law_refused" "_law_refused" (defArgs s__law_refused) (defBody s__law_refused) (defScope s__law_refused) .none kV__law_refused dc__law_refused pm__law_refused an__law_refused cd__law_refused ct__law_refused
    fd__law_run_of := PySem.W.fnOf "_law_run_of" "_law_run_of" (defArgs s__law_run_of) (defBody s__law_run_of) (defScope s__law_run_of) .none kV__law_run_of dc__law_run_of pm__law_run_of an__law_run_of cd__law_run_of ct__law_run_of
    fd__law_is_int := PySem.W.fnOf "_law_is_int" "_law_is_int" (defArgs s__law_is_int) (defBody s__law_is_int) (defScope s__law_is_int) .none kV__law_is_int dc__law_is_int pm__law_is_int an__law_is_int cd__law_is_int ct__law_is_int
    fd__law_same_steps := PySem.W.fnOf "_law_same_steps" "_law_same_steps" (defArgs s__law_same_steps) (defBody s__law_same_steps) (defScope s__law_same_steps) .none kV__law_same_steps dc__law_same_steps pm__law_same_steps an__law_same_steps cd__law_same_steps ct__law_same_steps
    fd_law := PySem.W.fnOf "law" "law" (defArgs s_law) (defBody s_law) (defScope s_law) .none kV_law dc_law pm_law an_law cd_law ct_law
    fd_BadKey___init__ := PySem.W.fnOf "__init__" "BadKey.__init__" (defArgs s_BadKey___init__) (defBody s_BadKey___init__) (defScope s_BadKey___init__) .none kV_BadKey___init__ dc_BadKey___init__ pm_BadKey___init__ an_BadKey___init__ cd_BadKey___init__ ct_BadKey___init__
    fd_NoChain___init__ := PySem.W.fnOf "__init__" "NoChain.__init__" (defArgs s_NoChain___init__) (defBody s_NoChain___init__) (defScope s_NoChain___init__) .none kV_NoChain___init__ dc_NoChain___init__ pm_NoChain___init__ an_NoChain___init__ cd_NoChain___init__ ct_NoChain___init__
    v_MOST_COPIES := ⟨_, PySem.W.mg_of X G av_MOST_COPIES⟩
    v_MOST_KEYS := ⟨_, PySem.W.mg_of X G av_MOST_KEYS⟩
    n_all := PySem.W.mg_none_of X G z_all
    n_any := PySem.W.mg_none_of X G z_any
    n_bool := PySem.W.mg_none_of X G z_bool
    n_int := PySem.W.mg_none_of X G z_int
    n_isinstance := PySem.W.mg_none_of X G z_isinstance
    n_len := PySem.W.mg_none_of X G z_len
    n_list := PySem.W.mg_none_of X G z_list
    n_range := PySem.W.mg_none_of X G z_range
    n_set := PySem.W.mg_none_of X G z_set
    n_str := PySem.W.mg_none_of X G z_str
    n_sum := PySem.W.mg_none_of X G z_sum
    n_tuple := PySem.W.mg_none_of X G z_tuple
    c_KeeperError := PySem.W.mg_of X G aC_KeeperError
    kp_KeeperError := kp_KeeperError
    c_BadLayout := PySem.W.mg_of X G aC_BadLayout
    kp_BadLayout := kp_BadLayout
    c_BadKey := PySem.W.mg_of X G aC_BadKey
    kp_BadKey := kp_BadKey
    c_NoCopy := PySem.W.mg_of X G aC_NoCopy
    kp_NoCopy := kp_NoCopy
    c_LineError := PySem.W.mg_of X G aC_LineError
    kp_LineError := kp_LineError
    c_NoChain := PySem.W.mg_of X G aC_NoChain
    kp_NoChain := kp_NoChain
    c_Layout := PySem.W.mg_of X G aC_Layout
    kp_Layout := kp_Layout
    cl_Layout := ⟨pg_Layout, hd_Layout, po_Layout, sa_Layout⟩
    mk_Layout := mk_Layout
    in_Layout := ⟨⟨pg_Layout, hd_Layout, po_Layout, sa_Layout⟩, ha_Layout, sp_get, tk_cls, hm_Layout, me_Layout⟩
    fd_masks := (ClsN.cons (PySem.W.mg_of X G aC_Layout) ⟨pg_Layout, hd_Layout, po_Layout, sa_Layout⟩ nA_Layout_masks ClsN.nil)
    fd_rows := (ClsN.cons (PySem.W.mg_of X G aC_Layout) ⟨pg_Layout, hd_Layout, po_Layout, sa_Layout⟩ nA_Layout_rows ClsN.nil)
    xf_chain := (XfN.cons (PySem.W.mg_of X G aC_NoChain) ⟨eg_NoChain, ek_NoChain, es_NoChain, ed_NoChain⟩ xA_NoChain_chain XfN.nil)
    ist_bool := (IsTab.ty (kit_ty (by decide +kernel)) (IsTab.ty (kit_ty (by decide +kernel)) (IsTab.ty (kit_ty (by decide +kernel)) (IsTab.ty (kit_ty (by decide +kernel)) (IsTab.ty (kit_ty (by decide +kernel)) (IsTab.ty (kit_ty (by decide +kernel)) (IsTab.ty (kit_ty (by decide +kernel)) (IsTab.ty (kit_ty (by decide +kernel)) (IsTab.own (PySem.W.mg_of X G aC_Layout) in_Layout ik_Layout_bool IsTab.nil)))))))))
    ist_int := (IsTab.ty (kit_ty (by decide +kernel)) (IsTab.ty (kit_ty (by decide +kernel)) (IsTab.ty (kit_ty (by decide +kernel)) (IsTab.ty (kit_ty (by decide +kernel)) (IsTab.ty (kit_ty (by decide +kernel)) (IsTab.ty (kit_ty (by decide +kernel)) (IsTab.ty (kit_ty (by decide +kernel)) (IsTab.ty (kit_ty (by decide +kernel)) (IsTab.own (PySem.W.mg_of X G aC_Layout) in_Layout ik_Layout_int IsTab.nil)))))))))
    ist_list := (IsTab.ty (kit_ty (by decide +kernel)) (IsTab.ty (kit_ty (by decide +kernel)) (IsTab.ty (kit_ty (by decide +kernel)) (IsTab.ty (kit_ty (by decide +kernel)) (IsTab.ty (kit_ty (by decide +kernel)) (IsTab.ty (kit_ty (by decide +kernel)) (IsTab.ty (kit_ty (by decide +kernel)) (IsTab.ty (kit_ty (by decide +kernel)) (IsTab.own (PySem.W.mg_of X G aC_Layout) in_Layout ik_Layout_list IsTab.nil)))))))))
    ist_str := (IsTab.ty (kit_ty (by decide +kernel)) (IsTab.ty (kit_ty (by decide +kernel)) (IsTab.ty (kit_ty (by decide +kernel)) (IsTab.ty (kit_ty (by decide +kernel)) (IsTab.ty (kit_ty (by decide +kernel)) (IsTab.ty (kit_ty (by decide +kernel)) (IsTab.ty (kit_ty (by decide +kernel)) (IsTab.ty (kit_ty (by decide +kernel)) (IsTab.own (PySem.W.mg_of X G aC_Layout) in_Layout ik_Layout_str IsTab.nil)))))))))
    ist_tuple := (IsTab.ty (kit_ty (by decide +kernel)) (IsTab.ty (kit_ty (by decide +kernel)) (IsTab.ty (kit_ty (by decide +kernel)) (IsTab.ty (kit_ty (by decide +kernel)) (IsTab.ty (kit_ty (by decide +kernel)) (IsTab.ty (kit_ty (by decide +kernel)) (IsTab.ty (kit_ty (by decide +kernel)) (IsTab.ty (kit_ty (by decide +kernel)) (IsTab.own (PySem.W.mg_of X G aC_Layout) in_Layout ik_Layout_tuple IsTab.nil)))))))))
    isx_KeeperError := (IsTabX.own (PySem.W.mg_of X G aC_KeeperError) ⟨eg_KeeperError, ek_KeeperError, es_KeeperError, ed_KeeperError, ea_KeeperError, sp_get, tk_cls, em_KeeperError⟩ jk_KeeperError_KeeperError (IsTabX.own (PySem.W.mg_of X G aC_BadLayout) ⟨eg_BadLayout, ek_BadLayout, es_BadLayout, ed_BadLayout, ea_BadLayout, sp_get, tk_cls, em_BadLayout⟩ jk_BadLayout_KeeperError (IsTabX.own (PySem.W.mg_of X G aC_BadKey) ⟨eg_BadKey, ek_BadKey, es_BadKey, ed_BadKey, ea_BadKey, sp_get, tk_cls, em_BadKey⟩ jk_BadKey_KeeperError (IsTabX.own (PySem.W.mg_of X G aC_NoCopy) ⟨eg_NoCopy, ek_NoCopy, es_NoCopy, ed_NoCopy, ea_NoCopy, sp_get, tk_cls, em_NoCopy⟩ jk_NoCopy_KeeperError (IsTabX.own (PySem.W.mg_of X G aC_LineError) ⟨eg_LineError, ek_LineError, es_LineError, ed_LineError, ea_LineError, sp_get, tk_cls, em_LineError⟩ jk_LineError_KeeperError (IsTabX.own (PySem.W.mg_of X G aC_NoChain) ⟨eg_NoChain, ek_NoChain, es_NoChain, ed_NoChain, ea_NoChain, sp_get, tk_cls, em_NoChain⟩ jk_NoChain_KeeperError IsTabX.nil))))))
    isx_LineError := (IsTabX.own (PySem.W.mg_of X G aC_KeeperError) ⟨eg_KeeperError, ek_KeeperError, es_KeeperError, ed_KeeperError, ea_KeeperError, sp_get, tk_cls, em_KeeperError⟩ jk_KeeperError_LineError (IsTabX.own (PySem.W.mg_of X G aC_BadLayout) ⟨eg_BadLayout, ek_BadLayout, es_BadLayout, ed_BadLayout, ea_BadLayout, sp_get, tk_cls, em_BadLayout⟩ jk_BadLayout_LineError (IsTabX.own (PySem.W.mg_of X G aC_BadKey) ⟨eg_BadKey, ek_BadKey, es_BadKey, ed_BadKey, ea_BadKey, sp_get, tk_cls, em_BadKey⟩ jk_BadKey_LineError (IsTabX.own (PySem.W.mg_of X G aC_NoCopy) ⟨eg_NoCopy, ek_NoCopy, es_NoCopy, ed_NoCopy, ea_NoCopy, sp_get, tk_cls, em_NoCopy⟩ jk_NoCopy_LineError (IsTabX.own (PySem.W.mg_of X G aC_LineError) ⟨eg_LineError, ek_LineError, es_LineError, ed_LineError, ea_LineError, sp_get, tk_cls, em_LineError⟩ jk_LineError_LineError (IsTabX.own (PySem.W.mg_of X G aC_NoChain) ⟨eg_NoChain, ek_NoChain, es_NoChain, ed_NoChain, ea_NoChain, sp_get, tk_cls, em_NoChain⟩ jk_NoChain_LineError IsTabX.nil))))))
    hd_NoChain := (HdTab.cons (PySem.W.mg_of X G aC_KeeperError) (PySem.W.exm_ref hb_NoChain hdd_NoChain ht_NoChain hs_KeeperError_NoChain) (HdTab.cons (PySem.W.mg_of X G aC_BadLayout) (PySem.W.exm_ref hb_NoChain hdd_NoChain ht_NoChain hs_BadLayout_NoChain) (HdTab.cons (PySem.W.mg_of X G aC_BadKey) (PySem.W.exm_ref hb_NoChain hdd_NoChain ht_NoChain hs_BadKey_NoChain) (HdTab.cons (PySem.W.mg_of X G aC_NoCopy) (PySem.W.exm_ref hb_NoChain hdd_NoChain ht_NoChain hs_NoCopy_NoChain) (HdTab.cons (PySem.W.mg_of X G aC_LineError) (PySem.W.exm_ref hb_NoChain hdd_NoChain ht_NoChain hs_LineError_NoChain) (HdTab.cons (PySem.W.mg_of X G aC_NoChain) (PySem.W.exm_ref hb_NoChain hdd_NoChain ht_NoChain hs_NoChain_NoChain) HdTab.nil))))))
    ox_BadKey := ⟨⟨_, _, _, _, _, _, _, _, _, _, _, _, _, _, _, xL_BadKey, rfl⟩, xs_BadKey, xe_BadKey, xy_BadKey, kp_BadKey⟩
    xn_BadKey := (by intro f hf; simp only [List.mem_cons, List.not_mem_nil, or_false] at hf; rcases hf with rfl; exact xq_BadKey_key)
    xf1_BadKey := xf1_BadKey
    xf2_BadKey := xf2_BadKey
    xi_BadLayout := xi_BadLayout
    xb_BadLayout := xb_BadLayout
    xt_BadLayout := xt_BadLayout
    ox_NoChain := ⟨⟨_, _, _, _, _, _, _, _, _, _, _, _, _, _, _, xL_NoChain, rfl⟩, xs_NoChain, xe_NoChain, xy_NoChain, kp_NoChain⟩
    xn_NoChain := (by intro f hf; simp only [List.mem_cons, List.not_mem_nil, or_false] at hf; rcases hf with rfl; exact xq_NoChain_chain)
    xf1_NoChain := xf1_NoChain
    xf2_NoChain := xf2_NoChain
    F__law_numbers := fun_mk l__law_numbers cc__law_numbers kk__law_numbers
    b__law_numbers := (fun_mk (st := s__law_numbers) l__law_numbers cc__law_numbers kk__law_numbers).binds fun _ _ _ _ _ _ us hl => match us, hl with | [_, _, _], _ => rfl
    g__law_numbers := PySem.W.mg_of X G a__law_numbers
    F__law_row := fun_mk l__law_row cc__law_row kk__law_row
    b__law_row := (fun_mk (st := s__law_row) l__law_row cc__law_row kk__law_row).binds fun _ _ _ _ _ _ us hl => match us, hl with | [_, _, _, _], _ => rfl
    g__law_row := PySem.W.mg_of X G a__law_row
    F__law_rows := fun_mk l__law_rows cc__law_rows kk__law_rows
    b__law_rows := (fun_mk (st := s__law_rows) l__law_rows cc__law_rows kk__law_rows).binds fun _ _ _ _ _ _ us hl => match us, hl with | [_, _, _], _ => rfl
    g__law_rows := PySem.W.mg_of X G a__law_rows
    F__law_cell := fun_mk l__law_cell cc__law_cell kk__law_cell
    b__law_cell := (fun_mk (st := s__law_cell) l__law_cell cc__law_cell kk__law_cell).binds fun _ _ _ _ _ _ us hl => match us, hl with | [_, _], _ => rfl
    g__law_cell := PySem.W.mg_of X G a__law_cell
    F_Layout___init__ := fun_mk l_Layout___init__ cc_Layout___init__ kk_Layout___init__
    b_Layout___init__ := (fun_mk (st := s_Layout___init__) l_Layout___init__ cc_Layout___init__ kk_Layout___init__).binds fun _ _ _ _ _ _ us hl => match us, hl with | [_, _], _ => rfl
    mt_Layout___init__ := ⟨ma_Layout___init__, mf_Layout___init__, kk_Layout___init__⟩
    F__law_lines := fun_mk l__law_lines cc__law_lines kk__law_lines
    b__law_lines := (fun_mk (st := s__law_lines) l__law_lines cc__law_lines kk__law_lines).binds fun _ _ _ _ _ _ us hl => match us, hl with | [_], _ => rfl
    g__law_lines := PySem.W.mg_of X G a__law_lines
    F__law_longer := fun_mk l__law_longer cc__law_longer kk__law_longer
    b__law_longer := (fun_mk (st := s__law_longer) l__law_longer cc__law_longer kk__law_longer).binds fun _ _ _ _ _ _ us hl => match us, hl with | [_, _, _], _ => rfl
    g__law_longer := PySem.W.mg_of X G a__law_longer
    F__law_keys_of := fun_mk l__law_keys_of cc__law_keys_of kk__law_keys_of
    b__law_keys_of := (fun_mk (st := s__law_keys_of) l__law_keys_of cc__law_keys_of kk__law_keys_of).binds fun _ _ _ _ _ _ us hl => match us, hl with | [_, _, _, _], _ => rfl
    g__law_keys_of := PySem.W.mg_of X G a__law_keys_of
    F__law_is_chain := fun_mk l__law_is_chain cc__law_is_chain kk__law_is_chain
    b__law_is_chain := (fun_mk (st := s__law_is_chain) l__law_is_chain cc__law_is_chain kk__law_is_chain).binds fun _ _ _ _ _ _ us hl => match us, hl with | [_, _], _ => rfl
    g__law_is_chain := PySem.W.mg_of X G a__law_is_chain
    F__law_chains := fun_mk l__law_chains cc__law_chains kk__law_chains
    b__law_chains := (fun_mk (st := s__law_chains) l__law_chains cc__law_chains kk__law_chains).binds fun _ _ _ _ _ _ us hl => match us, hl with | [_, _, _], _ => rfl
    g__law_chains := PySem.W.mg_of X G a__law_chains
    F__law_drawn := fun_mk l__law_drawn cc__law_drawn kk__law_drawn
    b__law_drawn := (fun_mk (st := s__law_drawn) l__law_drawn cc__law_drawn kk__law_drawn).binds fun _ _ _ _ _ _ us hl => match us, hl with | [_, _], _ => rfl
    g__law_drawn := PySem.W.mg_of X G a__law_drawn
    F__law_valid := fun_mk l__law_valid cc__law_valid kk__law_valid
    b__law_valid := (fun_mk (st := s__law_valid) l__law_valid cc__law_valid kk__law_valid).binds fun _ _ _ _ _ _ us hl => match us, hl with | [_, _], _ => rfl
    g__law_valid := PySem.W.mg_of X G a__law_valid
    F_Layout___len__ := fun_mk l_Layout___len__ cc_Layout___len__ kk_Layout___len__
    b_Layout___len__ := (fun_mk (st := s_Layout___len__) l_Layout___len__ cc_Layout___len__ kk_Layout___len__).binds fun _ _ _ _ _ _ us hl => match us, hl with | [_], _ => rfl
    mt_Layout___len__ := ⟨ma_Layout___len__, mf_Layout___len__, kk_Layout___len__⟩
    F_is_path := fun_mk l_is_path cc_is_path kk_is_path
    b_is_path := (fun_mk (st := s_is_path) l_is_path cc_is_path kk_is_path).binds fun _ _ _ _ _ _ us hl => match us, hl with | [_, _], _ => rfl
    g_is_path := PySem.W.mg_of X G a_is_path
    F_lowest := fun_mk l_lowest cc_lowest kk_lowest
    b_lowest := (fun_mk (st := s_lowest) l_lowest cc_lowest kk_lowest).binds fun _ _ _ _ _ _ us hl => match us, hl with | [_], _ => rfl
    g_lowest := PySem.W.mg_of X G a_lowest
    F_chain_keys := fun_mk l_chain_keys cc_chain_keys kk_chain_keys
    b_chain_keys := (fun_mk (st := s_chain_keys) l_chain_keys cc_chain_keys kk_chain_keys).binds fun _ _ _ _ _ _ us hl => match us, hl with | [_, _], _ => rfl
    g_chain_keys := PySem.W.mg_of X G a_chain_keys
    F_chain_run := fun_mk l_chain_run cc_chain_run kk_chain_run
    b_chain_run := (fun_mk (st := s_chain_run) l_chain_run cc_chain_run kk_chain_run).binds fun _ _ _ _ _ _ us hl => match us, hl with | [_, _], _ => rfl
    g_chain_run := PySem.W.mg_of X G a_chain_run
    F__law_refused := fun_mk l__law_refused cc__law_refused kk__law_refused
    b__law_refused := (fun_mk (st := s__law_refused) l__law_refused cc__law_refused kk__law_refused).binds fun _ _ _ _ _ _ us hl => match us, hl with | [_, _], _ => rfl
    g__law_refused := PySem.W.mg_of X G a__law_refused
    F__law_run_of := fun_mk l__law_run_of cc__law_run_of kk__law_run_of
    b__law_run_of := (fun_mk (st := s__law_run_of) l__law_run_of cc__law_run_of kk__law_run_of).binds fun _ _ _ _ _ _ us hl => match us, hl with | [_, _], _ => rfl
    g__law_run_of := PySem.W.mg_of X G a__law_run_of
    F__law_is_int := fun_mk l__law_is_int cc__law_is_int kk__law_is_int
    b__law_is_int := (fun_mk (st := s__law_is_int) l__law_is_int cc__law_is_int kk__law_is_int).binds fun _ _ _ _ _ _ us hl => match us, hl with | [_], _ => rfl
    g__law_is_int := PySem.W.mg_of X G a__law_is_int
    F__law_same_steps := fun_mk l__law_same_steps cc__law_same_steps kk__law_same_steps
    b__law_same_steps := (fun_mk (st := s__law_same_steps) l__law_same_steps cc__law_same_steps kk__law_same_steps).binds fun _ _ _ _ _ _ us hl => match us, hl with | [_, _], _ => rfl
    g__law_same_steps := PySem.W.mg_of X G a__law_same_steps
    F_law := fun_mk l_law cc_law kk_law
    b_law := (fun_mk (st := s_law) l_law cc_law kk_law).binds fun _ _ _ _ _ _ us hl => match us, hl with | [_], _ => rfl
    F_BadKey___init__ := fun_mk l_BadKey___init__ cc_BadKey___init__ kk_BadKey___init__
    b_BadKey___init__ := (fun_mk (st := s_BadKey___init__) l_BadKey___init__ cc_BadKey___init__ kk_BadKey___init__).binds fun _ _ _ _ _ _ us hl => match us, hl with | [_, _], _ => rfl
    F_NoChain___init__ := fun_mk l_NoChain___init__ cc_NoChain___init__ kk_NoChain___init__
    b_NoChain___init__ := (fun_mk (st := s_NoChain___init__) l_NoChain___init__ cc_NoChain___init__ kk_NoChain___init__).binds fun _ _ _ _ _ _ us hl => match us, hl with | [_, _], _ => rfl
  }
  exact ⟨PySem.W.fnOf "law" "law" (defArgs s_law) (defBody s_law) (defScope s_law) .none kV_law dc_law pm_law an_law cd_law ct_law, fun s v => .of_eq rfl, fun base _ _ => law_end (ok_law T) says⟩
theorem all_z {w : World} {K : PySem.W.Frag} {h : Heap} {mg : Str → Option Value} {fa : Addr} (X : K.In h) (G : h.Ns mainGlobals mg) (hfa : mg "law" = some (.ref fa)) (c : SaysZ chkZ fnZl vsZl K)
    : ∃ fd : FuncData, (∀ (s : Shared) (v : Value), BindsTo s fd ⟨[v], []⟩ [("_law_script", v)]) ∧ ∀ base : Heap, K.In base → base.Ns mainGlobals mg → FnOk PySem.Challenge.rw_partkeepers_k23_the_run_of_a_chain.prog w K mg base (L2.CX PySem.Challenge.rw_partkeepers_k23_the_run_of_a_chain.prog w) 7 fa fd ["_law_script"] (spLaw K) := by
  have q := c.1
  obtain ⟨k0, q⟩ := He.ba q
  obtain ⟨k1, q⟩ := He.ba q
  obtain ⟨k2, q⟩ := He.ba q
  obtain ⟨k3, q⟩ := He.ba q
  have k4 := q
  obtain ⟨oc__law_numbers, od__law_numbers, sl__law_numbers, kV__law_numbers, dc__law_numbers, pm__law_numbers, an__law_numbers, cd__law_numbers, ct__law_numbers, l__law_numbers, cc__law_numbers⟩ := fn_okZ (f := He.ga K "_law_numbers") (n := "_law_numbers") (q := "_law_numbers") (ps := defArgs s__law_numbers) (b := defBody s__law_numbers) (sc := defScope s__law_numbers) (c.fn_ 0 rfl rfl) (ck_at k0 0 rfl)
  obtain ⟨oc__law_row, od__law_row, sl__law_row, kV__law_row, dc__law_row, pm__law_row, an__law_row, cd__law_row, ct__law_row, l__law_row, cc__law_row⟩ := fn_okZ (f := He.ga K "_law_row") (n := "_law_row") (q := "_law_row") (ps := defArgs s__law_row) (b := defBody s__law_row) (sc := defScope s__law_row) (c.fn_ 1 rfl rfl) (ck_at k0 1 rfl)
  obtain ⟨oc__law_rows, od__law_rows, sl__law_rows, kV__law_rows, dc__law_rows, pm__law_rows, an__law_rows, cd__law_rows, ct__law_rows, l__law_rows, cc__law_rows⟩ := fn_okZ (f := He.ga K "_law_rows") (n := "_law_rows") (q := "_law_rows") (ps := defArgs s__law_rows) (b := defBody s__law_rows) (sc := defScope s__law_rows) (c.fn_ 2 rfl rfl) (ck_at k0 2 rfl)
  obtain ⟨oc__law_cell, od__law_cell, sl__law_cell, kV__law_cell, dc__law_cell, pm__law_cell, an__law_cell, cd__law_cell, ct__law_cell, l__law_cell, cc__law_cell⟩ := fn_okZ (f := He.ga K "_law_cell") (n := "_law_cell") (q := "_law_cell") (ps := defArgs s__law_cell) (b := defBody s__law_cell) (sc := defScope s__law_cell) (c.fn_ 3 rfl rfl) (ck_at k0 3 rfl)
  obtain ⟨oc_Layout___init__, od_Layout___init__, sl_Layout___init__, kV_Layout___init__, dc_Layout___init__, pm_Layout___init__, an_Layout___init__, cd_Layout___init__, ct_Layout___init__, l_Layout___init__, cc_Layout___init__⟩ := fn_okZ (f := He.ma K (He.ga K "Layout") "__init__") (n := "__init__") (q := "Layout.__init__") (ps := defArgs s_Layout___init__) (b := defBody s_Layout___init__) (sc := defScope s_Layout___init__) (c.fn_ 4 rfl rfl) (ck_at k0 4 rfl)
  obtain ⟨oc__law_lines, od__law_lines, sl__law_lines, kV__law_lines, dc__law_lines, pm__law_lines, an__law_lines, cd__law_lines, ct__law_lines, l__law_lines, cc__law_lines⟩ := fn_okZ (f := He.ga K "_law_lines") (n := "_law_lines") (q := "_law_lines") (ps := defArgs s__law_lines) (b := defBody s__law_lines) (sc := defScope s__law_lines) (c.fn_ 5 rfl rfl) (ck_at k0 5 rfl)
  obtain ⟨oc__law_longer, od__law_longer, sl__law_longer, kV__law_longer, dc__law_longer, pm__law_longer, an__law_longer, cd__law_longer, ct__law_longer, l__law_longer, cc__law_longer⟩ := fn_okZ (f := He.ga K "_law_longer") (n := "_law_longer") (q := "_law_longer") (ps := defArgs s__law_longer) (b := defBody s__law_longer) (sc := defScope s__law_longer) (c.fn_ 6 rfl rfl) (ck_at k0 6 rfl)
  obtain ⟨oc__law_keys_of, od__law_keys_of, sl__law_keys_of, kV__law_keys_of, dc__law_keys_of, pm__law_keys_of, an__law_keys_of, cd__law_keys_of, ct__law_keys_of, l__law_keys_of, cc__law_keys_of⟩ := fn_okZ (f := He.ga K "_law_keys_of") (n := "_law_keys_of") (q := "_law_keys_of") (ps := defArgs s__law_keys_of) (b := defBody s__law_keys_of) (sc := defScope s__law_keys_of) (c.fn_ 7 rfl rfl) (ck_at k0 7 rfl)
  obtain ⟨oc__law_is_chain, od__law_is_chain, sl__law_is_chain, kV__law_is_chain, dc__law_is_chain, pm__law_is_chain, an__law_is_chain, cd__law_is_chain, ct__law_is_chain, l__law_is_chain, cc__law_is_chain⟩ := fn_okZ (f := He.ga K "_law_is_chain") (n := "_law_is_chain") (q := "_law_is_chain") (ps := defArgs s__law_is_chain) (b := defBody s__law_is_chain) (sc := defScope s__law_is_chain) (c.fn_ 8 rfl rfl) (ck_at k0 8 rfl)
  obtain ⟨oc__law_chains, od__law_chains, sl__law_chains, kV__law_chains, dc__law_chains, pm__law_chains, an__law_chains, cd__law_chains, ct__law_chains, l__law_chains, cc__law_chains⟩ := fn_okZ (f := He.ga K "_law_chains") (n := "_law_chains") (q := "_law_chains") (ps := defArgs s__law_chains) (b := defBody s__law_chains) (sc := defScope s__law_chains) (c.fn_ 9 rfl rfl) (ck_at k0 9 rfl)
  obtain ⟨oc__law_drawn, od__law_drawn, sl__law_drawn, kV__law_drawn, dc__law_drawn, pm__law_drawn, an__law_drawn, cd__law_drawn, ct__law_drawn, l__law_drawn, cc__law_drawn⟩ := fn_okZ (f := He.ga K "_law_drawn") (n := "_law_drawn") (q := "_law_drawn") (ps := defArgs s__law_drawn) (b := defBody s__law_drawn) (sc := defScope s__law_drawn) (c.fn_ 10 rfl rfl) (ck_at k0 10 rfl)
  obtain ⟨oc__law_valid, od__law_valid, sl__law_valid, kV__law_valid, dc__law_valid, pm__law_valid, an__law_valid, cd__law_valid, ct__law_valid, l__law_valid, cc__law_valid⟩ := fn_okZ (f := He.ga K "_law_valid") (n := "_law_valid") (q := "_law_valid") (ps := defArgs s__law_valid) (b := defBody s__law_valid) (sc := defScope s__law_valid) (c.fn_ 11 rfl rfl) (ck_at k0 11 rfl)
  obtain ⟨oc_Layout___len__, od_Layout___len__, sl_Layout___len__, kV_Layout___len__, dc_Layout___len__, pm_Layout___len__, an_Layout___len__, cd_Layout___len__, ct_Layout___len__, l_Layout___len__, cc_Layout___len__⟩ := fn_okZ (f := He.ma K (He.ga K "Layout") "__len__") (n := "__len__") (q := "Layout.__len__") (ps := defArgs s_Layout___len__) (b := defBody s_Layout___len__) (sc := defScope s_Layout___len__) (c.fn_ 12 rfl rfl) (ck_at k0 12 rfl)
  obtain ⟨oc_is_path, od_is_path, sl_is_path, kV_is_path, dc_is_path, pm_is_path, an_is_path, cd_is_path, ct_is_path, l_is_path, cc_is_path⟩ := fn_okZ (f := He.ga K "is_path") (n := "is_path") (q := "is_path") (ps := defArgs s_is_path) (b := defBody s_is_path) (sc := defScope s_is_path) (c.fn_ 13 rfl rfl) (ck_at k0 13 rfl)
  obtain ⟨oc_lowest, od_lowest, sl_lowest, kV_lowest, dc_lowest, pm_lowest, an_lowest, cd_lowest, ct_lowest, l_lowest, cc_lowest⟩ := fn_okZ (f := He.ga K "lowest") (n := "lowest") (q := "lowest") (ps := defArgs s_lowest) (b := defBody s_lowest) (sc := defScope s_lowest) (c.fn_ 14 rfl rfl) (ck_at k0 14 rfl)
  obtain ⟨oc_chain_keys, od_chain_keys, sl_chain_keys, kV_chain_keys, dc_chain_keys, pm_chain_keys, an_chain_keys, cd_chain_keys, ct_chain_keys, l_chain_keys, cc_chain_keys⟩ := fn_okZ (f := He.ga K "chain_keys") (n := "chain_keys") (q := "chain_keys") (ps := defArgs s_chain_keys) (b := defBody s_chain_keys) (sc := defScope s_chain_keys) (c.fn_ 15 rfl rfl) (ck_at k0 15 rfl)
  obtain ⟨oc_chain_run, od_chain_run, sl_chain_run, kV_chain_run, dc_chain_run, pm_chain_run, an_chain_run, cd_chain_run, ct_chain_run, l_chain_run, cc_chain_run⟩ := fn_okZ (f := He.ga K "chain_run") (n := "chain_run") (q := "chain_run") (ps := defArgs s_chain_run) (b := defBody s_chain_run) (sc := defScope s_chain_run) (c.fn_ 16 rfl rfl) (ck_at k0 16 rfl)
  obtain ⟨oc__law_refused, od__law_refused, sl__law_refused, kV__law_refused, dc__law_refused, pm__law_refused, an__law_refused, cd__law_refused, ct__law_refused, l__law_refused, cc__law_refused⟩ := fn_okZ (f := He.ga K "_law_refused") (n := "_law_refused") (q := "_law_refused") (ps := defArgs s__law_refused) (b := defBody s__law_refused) (sc := defScope s__law_refused) (c.fn_ 17 rfl rfl) (ck_at k0 17 rfl)
  obtain ⟨oc__law_run_of, od__law_run_of, sl__law_run_of, kV__law_run_of, dc__law_run_of, pm__law_run_of, an__law_run_of, cd__law_run_of, ct__law_run_of, l__law_run_of, cc__law_run_of⟩ := fn_okZ (f := He.ga K "_law_run_of") (n := "_law_run_of") (q := "_law_run_of") (ps := defArgs s__law_run_of) (b := defBody s__law_run_of) (sc := defScope s__law_run_of) (c.fn_ 18 rfl rfl) (ck_at k0 18 rfl)
  obtain ⟨oc__law_is_int, od__law_is_int, sl__law_is_int, kV__law_is_int, dc__law_is_int, pm__law_is_int, an__law_is_int, cd__law_is_int, ct__law_is_int, l__law_is_int, cc__law_is_int⟩ := fn_okZ (f := He.ga K "_law_is_int") (n := "_law_is_int") (q := "_law_is_int") (ps := defArgs s__law_is_int) (b := defBody s__law_is_int) (sc := defScope s__law_is_int) (c.fn_ 19 rfl rfl) (ck_at k0 19 rfl)
  obtain ⟨oc__law_same_steps, od__law_same_steps, sl__law_same_steps, kV__law_same_steps, dc__law_same_steps, pm__law_same_steps, an__law_same_steps, cd__law_same_steps, ct__law_same_steps, l__law_same_steps, cc__law_same_steps⟩ := fn_okZ (f := He.ga K "_law_same_steps") (n := "_law_same_steps") (q := "_law_same_steps") (ps := defArgs s__law_same_steps) (b := defBody s__law_same_steps) (sc := defScope s__law_same_steps) (c.fn_ 20 rfl rfl) (ck_at k0 20 rfl)
  obtain ⟨oc_law, od_law, sl_law, kV_law, dc_law, pm_law, an_law, cd_law, ct_law, l_law, cc_law⟩ := fn_okZ (f := He.ga K "law") (n := "law") (q := "law") (ps := defArgs s_law) (b := defBody s_law) (sc := defScope s_law) (c.fn_ 21 rfl rfl) (ck_at k0 21 rfl)
  obtain ⟨oc_BadKey___init__, od_BadKey___init__, sl_BadKey___init__, kV_BadKey___init__, dc_BadKey___init__, pm_BadKey___init__, an_BadKey___init__, cd_BadKey___init__, ct_BadKey___init__, l_BadKey___init__, cc_BadKey___init__⟩ := fn_okZ (f := He.ma K (He.ga K "BadKey") "__init__") (n := "__init__") (q := "BadKey.__init__") (ps := defArgs s_BadKey___init__) (b := defBody s_BadKey___init__) (sc := defScope s_BadKey___init__) (c.fn_ 22 rfl rfl) (ck_at k0 22 rfl)
  obtain ⟨oc_NoChain___init__, od_NoChain___init__, sl_NoChain___init__, kV_NoChain___init__, dc_NoChain___init__, pm_NoChain___init__, an_NoChain___init__, cd_NoChain___init__, ct_NoChain___init__, l_NoChain___init__, cc_NoChain___init__⟩ := fn_okZ (f := He.ma K (He.ga K "NoChain") "__init__") (n := "__init__") (q := "NoChain.__init__") (ps := defArgs s_NoChain___init__) (b := defBody s_NoChain___init__) (sc := defScope s_NoChain___init__) (c.fn_ 23 rfl rfl) (ck_at k0 23 rfl)
  obtain ⟨tk_MOST_COPIES, av_MOST_COPIES⟩ := intB_ok (x := "MOST_COPIES") (i := 6) (ck_at k0 24 rfl)
  obtain ⟨tk_MOST_KEYS, av_MOST_KEYS⟩ := intB_ok (x := "MOST_KEYS") (i := 8) (ck_at k0 25 rfl)
  obtain ⟨nm_BadKey, qq_BadKey, N_BadKey, bs_BadKey, sn_BadKey, sb_BadKey, ab_BadKey, co_BadKey, dd_BadKey, m0_BadKey, m1_BadKey, m2_BadKey, m3_BadKey, m5_BadKey, xL_BadKey⟩ := excB_ok (C := He.ga K "BadKey") (bm := [.ref (He.ga K "KeeperError"), .type "ValueError", .type "Exception", .type "BaseException", .type "object"]) (nid := "ValueError.__new__") (ck_at k3 7 rfl)
  obtain ⟨nm_NoChain, qq_NoChain, N_NoChain, bs_NoChain, sn_NoChain, sb_NoChain, ab_NoChain, co_NoChain, dd_NoChain, m0_NoChain, m1_NoChain, m2_NoChain, m3_NoChain, m5_NoChain, xL_NoChain⟩ := excB_ok (C := He.ga K "NoChain") (bm := [.ref (He.ga K "KeeperError"), .type "ValueError", .type "Exception", .type "BaseException", .type "object"]) (nid := "ValueError.__new__") (ck_at k3 17 rfl)
  exact all_mk (l := PySem.Challenge.rw_partkeepers_k23_the_run_of_a_chain) (C_KeeperError := He.ga K "KeeperError") (C_BadLayout := He.ga K "BadLayout") (C_BadKey := He.ga K "BadKey") (C_NoCopy := He.ga K "NoCopy") (C_LineError := He.ga K "LineError") (C_NoChain := He.ga K "NoChain") (C_Layout := He.ga K "Layout") (f__law_numbers := He.ga K "_law_numbers") (f__law_row := He.ga K "_law_row") (f__law_rows := He.ga K "_law_rows") (f__law_cell := He.ga K "_law_cell") (f_Layout___init__ := He.ma K (He.ga K "Layout") "__init__") (f__law_lines := He.ga K "_law_lines") (f__law_longer := He.ga K "_law_longer") (f__law_keys_of := He.ga K "_law_keys_of") (f__law_is_chain := He.ga K "_law_is_chain") (f__law_chains := He.ga K "_law_chains") (f__law_drawn := He.ga K "_law_drawn") (f__law_valid := He.ga K "_law_valid") (f_Layout___len__ := He.ma K (He.ga K "Layout") "__len__") (f_is_path := He.ga K "is_path") (f_lowest := He.ga K "lowest") (f_chain_keys := He.ga K "chain_keys") (f_chain_run := He.ga K "chain_run") (f__law_refused := He.ga K "_law_refused") (f__law_run_of := He.ga K "_law_run_of") (f__law_is_int := He.ga K "_law_is_int") (f__law_same_steps := He.ga K "_law_same_steps") (f_law := He.ga K "law") (f_BadKey___init__ := He.ma K (He.ga K "BadKey") "__init__") (f_NoChain___init__ := He.ma K (He.ga K "NoChain") "__init__") X G hfa (ck_d k0 38 rfl) (ck_d k1 0 rfl) (ck_d k1 2 rfl) (ck_d k1 4 rfl) (ck_d k1 6 rfl) (ck_d k1 8 rfl) (ck_d k1 10 rfl) (ck_d k3 12 rfl) (ck_d k3 22 rfl) (ck_d k3 25 rfl) (ck_d k3 27 rfl) (ck_d k3 29 rfl) (ck_d k3 31 rfl) (ck_d k3 33 rfl) (ck_d k3 36 rfl) (ck_d k3 38 rfl) (ck_d k4 0 rfl) (ck_d k4 2 rfl) (ck_d k4 4 rfl) (ck_d k4 6 rfl) (ck_d k4 8 rfl) (ck_d k4 10 rfl) (ck_d k4 13 rfl) (ck_d k4 15 rfl) (ck_d k4 17 rfl) (ck_d k4 19 rfl) (ck_d k4 21 rfl) (ck_d k4 23 rfl) (ck_d k4 25 rfl) (ck_d k4 27 rfl) (ck_d k4 29 rfl) av_MOST_COPIES av_MOST_KEYS xL_BadKey xL_NoChain l__law_numbers l__law_row l__law_rows l__law_cell l_Layout___init__ l__law_lines l__law_longer l__law_keys_of l__law_is_chain l__law_chains l__law_drawn l__law_valid l_Layout___len__ l_is_path l_lowest l_chain_keys l_chain_run l__law_refused l__law_run_of l__law_is_int l__law_same_steps l_law l_BadKey___init__ l_NoChain___init__ (ck_d k0 26 rfl) (ck_d k0 27 rfl) (ck_d k0 28 rfl) (ck_d k0 29 rfl) (ck_d k0 30 rfl) (ck_d k0 31 rfl) (ck_d k0 32 rfl) (ck_d k0 33 rfl) (ck_d k0 34 rfl) (ck_d k0 35 rfl) (ck_d k0 36 rfl) (ck_d k0 37 rfl) (ck_d k0 39 rfl) (ck_d k1 1 rfl) (ck_d k1 3 rfl) (ck_d k1 5 rfl) (ck_d k1 7 rfl) (ck_d k1 9 rfl) (ck_d k1 11 rfl) (ck_d k1 12 rfl) (ck_d k1 13 rfl) (ck_d k1 14 rfl) (ck_d k1 15 rfl) (ck_d k1 16 rfl) (ck_d k1 17 rfl) (ck_d k1 18 rfl) (ck_d k1 19 rfl) (ck_d k1 20 rfl) (ck_d k1 21 rfl) (ck_d k1 22 rfl) (ck_d k1 23 rfl) (ck_d k1 24 rfl) (ck_d k1 25 rfl) (ck_d k1 26 rfl) (ck_d k1 27 rfl) (ck_d k1 28 rfl) (ck_d k1 29 rfl) (ck_d k1 30 rfl) (ck_d k1 31 rfl) (ck_d k1 32 rfl) (ck_d k1 33 rfl) (ck_d k1 34 rfl) (ck_d k1 35 rfl) (ck_d k1 36 rfl) (ck_d k1 37 rfl) (ck_d k1 38 rfl) (ck_d k1 39 rfl) (ck_d k2 0 rfl) (ck_d k2 1 rfl) (ck_d k2 2 rfl) (ck_d k2 3 rfl) (ck_d k2 4 rfl) (ck_d k2 5 rfl) (ck_d k2 6 rfl) (ck_d k2 7 rfl) (ck_d k2 8 rfl) (ck_d k2 9 rfl) (ck_d k2 10 rfl) (ck_d k2 11 rfl) (ck_d k2 12 rfl) (ck_d k2 13 rfl) (ck_d k2 14 rfl) (ck_d k2 15 rfl) (ck_d k2 16 rfl) (ck_d k2 17 rfl) (ck_d k2 18 rfl) (ck_d k2 19 rfl) (ck_d k2 20 rfl) (ck_d k2 21 rfl) (ck_d k2 22 rfl) (ck_d k2 23 rfl) (ck_d k2 24 rfl) (ck_d k2 25 rfl) (ck_d k2 26 rfl) (ck_d k2 27 rfl) (ck_d k2 28 rfl) (ck_d k2 29 rfl) (ck_d k2 30 rfl) (ck_d k2 31 rfl) (ck_d k2 32 rfl) (ck_d k2 33 rfl) (ck_d k2 34 rfl) (ck_d k2 35 rfl) (ck_d k2 36 rfl) (ck_d k2 37 rfl) (ck_d k2 38 rfl) (ck_d k2 39 rfl) (ck_d k3 0 rfl) (ck_d k3 1 rfl) (ck_d k3 2 rfl) (ck_d k3 3 rfl) (ck_d k3 4 rfl) (ck_d k3 5 rfl) (ck_d k3 6 rfl) (ck_d k3 8 rfl) (ck_d k3 9 rfl) (ck_d k3 10 rfl) (ck_d k3 11 rfl) (ck_d k3 13 rfl) (ck_d k3 14 rfl) (ck_d k3 15 rfl) (ck_d k3 16 rfl) (ck_d k3 18 rfl) (ck_d k3 19 rfl) (ck_d k3 20 rfl) (ck_d k3 21 rfl) (ck_d k3 23 rfl) cc__law_numbers (ck_d k3 24 rfl) cc__law_row (ck_d k3 26 rfl) cc__law_rows (ck_d k3 28 rfl) cc__law_cell (ck_d k3 30 rfl) cc_Layout___init__ (ck_d k3 32 rfl) (ck_d k3 34 rfl) cc__law_lines (ck_d k3 35 rfl) cc__law_longer (ck_d k3 37 rfl) cc__law_keys_of (ck_d k3 39 rfl) cc__law_is_chain (ck_d k4 1 rfl) cc__law_chains (ck_d k4 3 rfl) cc__law_drawn (ck_d k4 5 rfl) cc__law_valid (ck_d k4 7 rfl) cc_Layout___len__ (ck_d k4 9 rfl) (ck_d k4 11 rfl) cc_is_path (ck_d k4 12 rfl) cc_lowest (ck_d k4 14 rfl) cc_chain_keys (ck_d k4 16 rfl) cc_chain_run (ck_d k4 18 rfl) cc__law_refused (ck_d k4 20 rfl) cc__law_run_of (ck_d k4 22 rfl) cc__law_is_int (ck_d k4 24 rfl) cc__law_same_steps (ck_d k4 26 rfl) cc_law (ck_d k4 28 rfl) cc_BadKey___init__ (ck_d k4 30 rfl) cc_NoChain___init__ (ck_d k4 31 rfl)
end Z
open PySem PySem.W PySem.Calls PyProof.Rows
set_option maxRecDepth 100000 in
set_option maxHeartbeats 0 in
theorem PySem.Challenge.cw_partkeepers_k23_the_run_of_a_chain_holds : PySem.Challenge.rw_partkeepers_k23_the_run_of_a_chain.Holds := by
  w_on; o_law
  refine HandSHeadRun.head_any (r := (PySem.W.OpenLaw.row PySem.Challenge.rw_partkeepers_k23_the_run_of_a_chain)) (q := PySem.W.view (PySem.W.OpenLaw.row PySem.Challenge.rw_partkeepers_k23_the_run_of_a_chain).prog [33]) (H := Z.hk) (ob := Z.obZ) (M := 60000) (loose := Z.loose) (d := HandSHeadRun.topDef (PySem.W.OpenLaw.row PySem.Challenge.rw_partkeepers_k23_the_run_of_a_chain).prog 33) (kwd := []) (fun s => Z.obsZ_eq (HandSHeadRun.getT_eq s)) (by kernel_rfl) (fun s => by kernel_rfl) Z.runZ (by kernel_rfl) (by kernel_rfl) (by kernel_rfl) (by rfl) (by first | assumption | decide +kernel) (by decide +kernel) ⟨rfl, rfl, rfl, rfl, rfl, by decide +kernel⟩ ?hw ?hc
  case hw => w_witness2
  case hc =>
    refine Z.walkE (l := PySem.Challenge.rw_partkeepers_k23_the_run_of_a_chain) (k := 7) (x := "_law_script") rfl (by kernel_rfl) ⟨rfl, by decide, by decide⟩ ?F
    intro w mg fa h Y G hmg0
    obtain ⟨K, KX, c⟩ := Y
    have hmg : mg ("law" : PySem.Str) = some (.ref fa) := by
      have e : (HandSHeadRun.topDef (PySem.W.OpenLaw.row PySem.Challenge.rw_partkeepers_k23_the_run_of_a_chain).prog 33).name = ("law" : PySem.Str) := by kernel_rfl
      rw [← e]
      exact hmg0
    exact ⟨K, KX, Z.all_z KX G hmg c⟩
