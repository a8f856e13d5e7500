import PyProof.Rows.All
import Wide.All
import OpenK.AllK
import Wide.FinOn
import HandS.ForMost
import HandS.Exc
import HandS.ExcOwn
import HandS.WordsExc
import HandS.CallSlots
import HandS.Wide
import HandS.Slots
import HandS.TupAny
import HandS.Deep
import HandS.TupLe
import HandS.ExcInit
import HandS.ExcField
import HandS.ExcIs
import HandS.TryMany
import HandS.More
import HandS.SetFor
import HandS.Small
import HandS.Text
import HandS.IsInst
import HandS.Codes
import KE.KExcIs
import HandS.HotCalls
import HandS.OwnEq
import HandS.IterNext
import HandS.IterVal
import HandS.OwnIter
import HandS.Finally
import HandS.ExcInitHot
import HandS.EndBits
import HandS.Conv
import HandS.DictComp
import HandS.Iter
import HandS.TupLen
import KE.KEqDict
import HandS.ExcValue
import KE.KDictWalk
import HandS.Defaults
import HandS.Lambda
import HandS.FStr
import PyProof.FString3
import PyProof.Rows.StrIntSpec
import KE.KStrBytes
import HandS.Bytes
import HandS.StrMore
import HandS.SlotsOwn
import HandS.Property
import KE.KBytesDec
import KE.KBytesMap
import Wide.BytesFacts
import KE.IntTextLaws
import KE.KBytesCut
import HandS.Style
import KE.KDictCopyH
import KE.KDictOf
import HandS.Flow
import KE.KExcRaise
import KE.KSuper
import HandS.ClsMeth
import KE.KStateDown
import HandS.Head0
import HandS.Head1
import HandS.Head2
import HandS.HeadEnd
import HandS.HeadHook1
import HandS.GenList
import HandS.TupSets
import PyProof.CollectIter
import HandS.Star
import HandS.HeadNt
import HandS.Zip
import PySem.Challenge.RW_partkeepers_k22_chains_in_order
set_option Elab.async false
set_option linter.all false
set_option maxRecDepth 100000
namespace Z
open PySem PySem.Spec PyProof.Rows L2
inductive W where
  | non
  | bl (b : Bool)
  | int (i : Int)
  | str (x : Str)
  | byt (b : Array UInt8)
  | tup (ws : List W)
  | lst (ws : List W)
  | frl (ws : List W)
  | dK (kvs : List (Key × W))
  | dT (kvs : List (List Key × W))
  | dF (kvs : List (List Key × W))
  | obj (nm : Str) (fs : List (Str × W))
  | slt (nm : Str) (ws : List W)
  | ref (n : Nat)
instance : Inhabited W := ⟨.non⟩
inductive Cell where
  | lst (ws : List W)
  | dK (kvs : List (Key × W))
  | dT (kvs : List (List Key × W))
  | ins (nm : Str) (fs : List (Str × W))
def Cell.toW : Cell → W
  | .lst ws => .lst ws
  | .dK k => .dK k
  | .dT k => .dT k
  | .ins n f => .obj n f
@[simp] theorem toW_lst {ws : List W} : (Cell.lst ws).toW = .lst ws := rfl
@[simp] theorem toW_dK {ws : List (Key × W)} : (Cell.dK ws).toW = .dK ws := rfl
@[simp] theorem toW_dT {ws : List (List Key × W)} : (Cell.dT ws).toW = .dT ws := rfl
@[simp] theorem toW_ins {n : Str} {ws : List (Str × W)} : (Cell.ins n ws).toW = .obj n ws := rfl
structure Ex where
  nm : Str
  fs : List (Str × W)
inductive SV where
  | non
  | val (w : W)
  | own (c : Cell)
  | exc (x : Ex)
structure EA where
  a : Addr
  cls : Value
  d : Option Addr
def ea0 : EA := ⟨0, .none, none⟩
inductive RV where
  | val (w : W)
  | own (c : Cell)
  | hnd (i : Nat)
structure S where
  r : List SV
  G : List Cell
section
variable (K : PySem.W.Frag) (mg : Str → Option Value)
def KT (a : Addr) (vs : List V) : Prop := ∃ (o : Obj) (its : Array Value) (n : Nat), K.lookup a = some o ∧ o.cls = .type "tuple" ∧ o.data = .seq its n ∧ its.size ≤ sizeLine ∧ Vals vs its.toList
def KL (a : Addr) (vs : List V) : Prop := ∃ (o : Obj) (its : Array Value) (n : Nat), K.lookup a = some o ∧ o.cls = .type "list" ∧ o.dict = none ∧ o.data = .seq its n ∧ its.size ≤ sizeLine ∧ Vals vs its.toList
inductive Rw (io : List Addr) (M : Addr → Prop) (H : Hp) : W → V → Prop
  | non : Rw io M H .non .non
  | bl (b : Bool) : Rw io M H (.bl b) (.bl b)
  | int (i : Int) : Rw io M H (.int i) (.int i)
  | str (x : Str) : Rw io M H (.str x) (.str x)
  | byt (b : Array UInt8) : Rw io M H (.byt b) (.byt b)
  | tup {ws : List W} {a : Addr} {vs : List V} : ((H a = some (.tup vs) ∧ ¬ M a) ∨ (KT K a vs ∧ vs = [])) → ws.length = vs.length → (∀ (i : Nat) (w : W) (v : V), ws[i]? = some w → vs[i]? = some v → Rw io M H w v) → Rw io M H (.tup ws) (.ref a)
  | frl {ws : List W} {a : Addr} {vs : List V} : ((Rd H a (.lst vs) ∧ ¬ M a) ∨ KL K a vs) → ws.length = vs.length → (∀ (i : Nat) (w : W) (v : V), ws[i]? = some w → vs[i]? = some v → Rw io M H w v) → Rw io M H (.frl ws) (.ref a)
  | lst {ws : List W} {a : Addr} {vs : List V} : H a = some (.lst vs) → ¬ M a → ws.length = vs.length → (∀ (i : Nat) (w : W) (v : V), ws[i]? = some w → vs[i]? = some v → Rw io M H w v) → Rw io M H (.lst ws) (.ref a)
  | dK {ws : List (Key × W)} {a : Addr} {vs : List (Key × V)} : Rd H a (.dK vs) → ¬ M a → ws.map (·.1) = vs.map (·.1) → (∀ (i : Nat) (w : W) (v : V), (ws.map (·.2))[i]? = some w → (vs.map (·.2))[i]? = some v → Rw io M H w v) → Rw io M H (.dK ws) (.ref a)
  | dT {ws : List (List Key × W)} {a : Addr} {vs : List (List Key × V)} : Rd H a (.dT vs) → ¬ M a → ws.map (·.1) = vs.map (·.1) → (∀ (i : Nat) (w : W) (v : V), (ws.map (·.2))[i]? = some w → (vs.map (·.2))[i]? = some v → Rw io M H w v) → Rw io M H (.dT ws) (.ref a)
  | dF {ws : List (List Key × W)} {a : Addr} {ob : Obj} {vs : List (List Key × V)} : H a = some (.frz ob (.dT vs)) → ¬ M a → ws.map (·.1) = vs.map (·.1) → (∀ (i : Nat) (w : W) (v : V), (ws.map (·.2))[i]? = some w → (vs.map (·.2))[i]? = some v → Rw io M H w v) → Rw io M H (.dF ws) (.ref a)
  | obj {nm : Str} {ws : List (Str × W)} {a C dx : Addr} {vs : List (Str × V)} : mg nm = some (.ref C) → H a = some (.ins C dx vs) → ¬ M a → ws.map (·.1) = vs.map (·.1) → (∀ (i : Nat) (w : W) (v : V), (ws.map (·.2))[i]? = some w → (vs.map (·.2))[i]? = some v → Rw io M H w v) → Rw io M H (.obj nm ws) (.ref a)
  | slt {nm : Str} {ws : List W} {a C dx : Addr} {vs : List V} : mg nm = some (.ref C) → H a = some (SlX.SlO a C dx (vs.map some)) → ¬ M a → H dx = some (.xd []) → ¬ M dx → ws.length = vs.length → (∀ (i : Nat) (w : W) (v : V), ws[i]? = some w → vs[i]? = some v → Rw io M H w v) → Rw io M H (.slt nm ws) (.ref a)
  | ref {n : Nat} {a : Addr} : io[n]? = some a → Rw io M H (.ref n) (.ref a)
def Rws (io : List Addr) (M : Addr → Prop) (H : Hp) (ws : List W) (vs : List V) : Prop :=
  ws.length = vs.length ∧ ∀ (i : Nat) (w : W) (v : V), ws[i]? = some w → vs[i]? = some v → Rw K mg io M H w v
def Rkv {κ : Type} (io : List Addr) (M : Addr → Prop) (H : Hp) (ws : List (κ × W)) (vs : List (κ × V)) : Prop :=
  ws.map (·.1) = vs.map (·.1) ∧ Rws K mg io M H (ws.map (·.2)) (vs.map (·.2))
end
section
variable {K : PySem.W.Frag} {mg : Str → Option Value} {io io' : List Addr} {M M' : Addr → Prop} {H H' : Hp} {w : W} {v : V} {ws : List W} {vs : List V}
structure Pers (io : List Addr) (M : Addr → Prop) (H : Hp) (io' : List Addr) (M' : Addr → Prop) (H' : Hp) : Prop where
  keep : ∀ a o, H a = some o → ¬ M a → H' a = some o
  new : ∀ a, M' a → M a ∨ H a = none
  ext : ∀ (n : Nat) (a : Addr), io[n]? = some a → io'[n]? = some a
theorem Pers.notin (p : Pers io M H io' M' H') {a : Addr} {o : HO} (h : H a = some o) (hM : ¬ M a) : ¬ M' a := fun z => by
  rcases p.new a z with q | q
  · exact hM q
  · rw [h] at q; cases q
theorem Rd.some_of {a : Addr} {u : HO} (h : Rd H a u) : ∃ o, H a = some o := by
  rcases h with h | ⟨o, h⟩
  · exact ⟨_, h⟩
  · exact ⟨_, h⟩
theorem Pers.rd (p : Pers io M H io' M' H') {a : Addr} {u : HO} (h : Rd H a u) (hM : ¬ M a) : Rd H' a u := by
  rcases h with h | ⟨o, h⟩
  · exact .inl (p.keep _ _ h hM)
  · exact .inr ⟨o, p.keep _ _ h hM⟩
theorem Pers.notin' (p : Pers io M H io' M' H') {a : Addr} {u : HO} (h : Rd H a u) (hM : ¬ M a) : ¬ M' a :=
  let ⟨_, q⟩ := Rd.some_of h
  p.notin q hM
theorem Rw.pers (p : Pers io M H io' M' H') (h : Rw K mg io M H w v) : Rw K mg io' M' H' w v := by
  induction h with
  | non => exact .non
  | bl b => exact .bl b
  | int i => exact .int i
  | str x => exact .str x
  | byt b => exact .byt b
  | tup h l _ ih => exact .tup (h.imp (fun ⟨x, y⟩ => ⟨p.keep _ _ x y, p.notin x y⟩) id) l ih
  | frl h l _ ih => exact .frl (h.imp (fun ⟨x, y⟩ => ⟨p.rd x y, p.notin' x y⟩) id) l ih
  | lst h n l _ ih => exact .lst (p.keep _ _ h n) (p.notin h n) l ih
  | dK h n l _ ih => exact .dK (p.rd h n) (p.notin' h n) l ih
  | dT h n l _ ih => exact .dT (p.rd h n) (p.notin' h n) l ih
  | dF h n l _ ih => exact .dF (p.keep _ _ h n) (p.notin h n) l ih
  | obj m h n l _ ih => exact .obj m (p.keep _ _ h n) (p.notin h n) l ih
  | slt m h n h2 n2 l _ ih => exact .slt m (p.keep _ _ h n) (p.notin h n) (p.keep _ _ h2 n2) (p.notin h2 n2) l ih
  | ref h => exact .ref (p.ext _ _ h)
theorem Rws.pers (p : Pers io M H io' M' H') (h : Rws K mg io M H ws vs) : Rws K mg io' M' H' ws vs := ⟨h.1, fun i w v a b => (h.2 i w v a b).pers p⟩
theorem Rkv.pers {κ : Type} {ws : List (κ × W)} {vs : List (κ × V)} (p : Pers io M H io' M' H') (h : Rkv K mg io M H ws vs) : Rkv K mg io' M' H' ws vs := ⟨h.1, h.2.pers p⟩
theorem Pers.refl : Pers io M H io M H := ⟨fun _ _ h _ => h, fun _ h => .inl h, fun _ _ h => h⟩
theorem Pers.less (h : ∀ a, M' a → M a) : Pers io M H io M' H := ⟨fun _ _ h _ => h, fun a z => .inl (h a z), fun _ _ h => h⟩
theorem Rws.nil : Rws K mg io M H [] [] := ⟨rfl, fun i w v h => by simp at h⟩
theorem Rws.cons (h : Rw K mg io M H w v) (t : Rws K mg io M H ws vs) : Rws K mg io M H (w :: ws) (v :: vs) := by
  refine ⟨by simp [t.1], fun i a b ha hb => ?_⟩
  cases i with
  | zero => simp at ha hb; subst ha; subst hb; exact h
  | succ i => exact t.2 i a b (by simpa using ha) (by simpa using hb)
theorem Rws.cons_inv (h : Rws K mg io M H (w :: ws) vs) : ∃ v r, vs = v :: r ∧ Rw K mg io M H w v ∧ Rws K mg io M H ws r := by
  cases vs with
  | nil => have := h.1; simp at this
  | cons v r => exact ⟨v, r, rfl, h.2 0 w v rfl rfl, by have := h.1; simpa using this, fun i a b ha hb => h.2 (i + 1) a b (by simpa using ha) (by simpa using hb)⟩
theorem Rws.nil_inv (h : Rws K mg io M H [] vs) : vs = [] := by
  have := h.1
  cases vs with
  | nil => rfl
  | cons _ _ => simp at this
theorem Rws.get (h : Rws K mg io M H ws vs) {i : Nat} (e : ws[i]? = some w) : ∃ v, vs[i]? = some v ∧ Rw K mg io M H w v := by
  have hi : i < ws.length := by
    rcases Nat.lt_or_ge i ws.length with q | q
    · exact q
    · rw [List.getElem?_eq_none_iff.mpr q] at e; cases e
  have hv : i < vs.length := by rw [← h.1]; exact hi
  exact ⟨vs[i], by simp [hv], h.2 i w _ e (by simp [hv])⟩
theorem Rws.append {ws' : List W} {vs' : List V} (h : Rws K mg io M H ws vs) (t : Rws K mg io M H ws' vs') : Rws K mg io M H (ws ++ ws') (vs ++ vs') := by
  refine ⟨by simp [h.1, t.1], fun i a b ha hb => ?_⟩
  rcases Nat.lt_or_ge i ws.length with q | q
  · rw [List.getElem?_append_left q] at ha
    rw [List.getElem?_append_left (by rw [← h.1]; exact q)] at hb
    exact h.2 i a b ha hb
  · rw [List.getElem?_append_right q] at ha
    rw [List.getElem?_append_right (by rw [← h.1]; exact q)] at hb
    rw [← h.1] at hb
    exact t.2 _ a b ha hb
theorem Rws.one (h : Rw K mg io M H w v) : Rws K mg io M H [w] [v] := Rws.cons h Rws.nil
theorem Rws.set (h : Rws K mg io M H ws vs) {i : Nat} (hw : Rw K mg io M H w v) : Rws K mg io M H (ws.set i w) (vs.set i v) := by
  refine ⟨by simp [h.1], fun j a b ha hb => ?_⟩
  by_cases e : i = j
  · subst e
    rcases Nat.lt_or_ge i ws.length with q | q
    · rw [List.getElem?_set_self q] at ha
      rw [List.getElem?_set_self (by rw [← h.1]; exact q)] at hb
      cases ha; cases hb; exact hw
    · rw [List.getElem?_eq_none (by simpa using q)] at ha; cases ha
  · rw [List.getElem?_set_ne e] at ha hb
    exact h.2 j a b ha hb
theorem Rws.take (h : Rws K mg io M H ws vs) (n : Nat) : Rws K mg io M H (ws.take n) (vs.take n) := by
  refine ⟨by simp [h.1], fun i a b ha hb => ?_⟩
  rw [List.getElem?_take] at ha hb
  split at ha
  · rename_i q
    rw [if_pos q] at hb
    exact h.2 i a b ha hb
  · cases ha
theorem Rws.drop (h : Rws K mg io M H ws vs) (n : Nat) : Rws K mg io M H (ws.drop n) (vs.drop n) := by
  refine ⟨by simp [h.1], fun i a b ha hb => ?_⟩
  rw [List.getElem?_drop] at ha hb
  exact h.2 _ a b ha hb
theorem Rkv.nil {κ : Type} : Rkv (κ := κ) K mg io M H [] [] := ⟨rfl, Rws.nil⟩
theorem Rkv.cons {κ : Type} {k : κ} {ws : List (κ × W)} {vs : List (κ × V)} (h : Rw K mg io M H w v) (t : Rkv K mg io M H ws vs) : Rkv K mg io M H ((k, w) :: ws) ((k, v) :: vs) := ⟨by simp [t.1], Rws.cons h t.2⟩
theorem Rkv.cons_inv {κ : Type} {k : κ} {ws : List (κ × W)} {vs : List (κ × V)} (h : Rkv K mg io M H ((k, w) :: ws) vs) : ∃ v r, vs = (k, v) :: r ∧ Rw K mg io M H w v ∧ Rkv K mg io M H ws r := by
  cases vs with
  | nil => have := h.1; simp at this
  | cons p r =>
    obtain ⟨k', v⟩ := p
    have e := h.1
    simp only [List.map_cons, List.cons.injEq] at e
    obtain ⟨v', r', e', h1, h2⟩ := Rws.cons_inv (by simpa using h.2 : Rws K mg io M H (w :: ws.map (·.2)) (((k', v) :: r).map (·.2)))
    simp only [List.map_cons, List.cons.injEq] at e'
    obtain ⟨rfl, e2⟩ := e'
    obtain ⟨rfl, e1⟩ := e
    exact ⟨v, r, rfl, h1, e1, by rw [e2]; exact h2⟩
theorem Rkv.nil_inv {κ : Type} {vs : List (κ × V)} (h : Rkv K mg io M H [] vs) : vs = [] := by
  have := h.1
  cases vs with
  | nil => rfl
  | cons _ _ => simp at this
theorem Rkv.length {κ : Type} {ws : List (κ × W)} {vs : List (κ × V)} (h : Rkv K mg io M H ws vs) : ws.length = vs.length := by
  have := congrArg List.length h.1
  simpa using this
theorem Rkv.lookup {κ : Type} [BEq κ] {k : κ} {vs : List (κ × V)} : ∀ {ws : List (κ × W)} {vs : List (κ × V)}, Rkv K mg io M H ws vs → ws.lookup k = some w → ∃ v, vs.lookup k = some v ∧ Rw K mg io M H w v
  | [], _, _, e => by simp at e
  | (k', w') :: ws, vs, h, e => by
    obtain ⟨v, r, rfl, h1, h2⟩ := Rkv.cons_inv h
    by_cases q : (k == k') = true
    · rw [List.lookup_cons, q] at e
      simp at e
      subst e
      exact ⟨v, by rw [List.lookup_cons, q], h1⟩
    · have q' : (k == k') = false := by simpa using q
      rw [List.lookup_cons, q'] at e
      obtain ⟨u, h3, h4⟩ := Rkv.lookup (vs := r) h2 e
      exact ⟨u, by rw [List.lookup_cons, q']; exact h3, h4⟩
def Nt (o : HO) : Prop := ∀ vs, o ≠ .tup vs
theorem Nt.of {H : Hp} {a : Addr} {o : HO} (h : H a = some o) (n : Nt o) (vs : List V) : H a ≠ some (.tup vs) := fun z => n vs (Option.some.inj (h.symm.trans z))
def Rc (K : PySem.W.Frag) (mg : Str → Option Value) (io : List Addr) (M : Addr → Prop) (H : Hp) : Cell → HO → Prop
  | .lst ws, o => ∃ vs, o = .lst vs ∧ Rws K mg io M H ws vs
  | .dK ws, o => ∃ vs, o = .dK vs ∧ Rkv K mg io M H ws vs
  | .dT ws, o => ∃ vs, o = .dT vs ∧ Rkv K mg io M H ws vs
  | .ins nm ws, o => ∃ C dx vs, o = .ins C dx vs ∧ mg nm = some (.ref C) ∧ Rkv K mg io M H ws vs
variable {c : Cell} {o : HO}
theorem Rc.pers (p : Pers io M H io' M' H') (h : Rc K mg io M H c o) : Rc K mg io' M' H' c o := by
  cases c with
  | lst ws => obtain ⟨vs, e, h⟩ := h; exact ⟨vs, e, h.pers p⟩
  | dK ws => obtain ⟨vs, e, h⟩ := h; exact ⟨vs, e, h.pers p⟩
  | dT ws => obtain ⟨vs, e, h⟩ := h; exact ⟨vs, e, h.pers p⟩
  | ins nm ws => obtain ⟨C, dx, vs, e, m, h⟩ := h; exact ⟨C, dx, vs, e, m, h.pers p⟩
theorem Rc.froze {a : Addr} (h : Rc K mg io M H c o) (ha : H a = some o) (hn : ¬ M a) : Rw K mg io M H c.toW (.ref a) := by
  cases c with
  | lst ws => obtain ⟨vs, rfl, h⟩ := h; exact .lst ha hn h.1 h.2
  | dK ws => obtain ⟨vs, rfl, h⟩ := h; exact .dK (.inl ha) hn h.1 h.2.2
  | dT ws => obtain ⟨vs, rfl, h⟩ := h; exact .dT (.inl ha) hn h.1 h.2.2
  | ins nm ws => obtain ⟨C, dx, vs, rfl, m, h⟩ := h; exact .obj m ha hn h.1 h.2.2
theorem Rc.nt (h : Rc K mg io M H c o) : Nt o := by
  cases c with
  | lst ws => obtain ⟨vs, rfl, h⟩ := h; intro _ z; cases z
  | dK ws => obtain ⟨vs, rfl, h⟩ := h; intro _ z; cases z
  | dT ws => obtain ⟨vs, rfl, h⟩ := h; intro _ z; cases z
  | ins nm ws => obtain ⟨C, dx, vs, rfl, m, h⟩ := h; intro _ z; cases z
def ExR (K : PySem.W.Frag) (mg : Str → Option Value) (io : List Addr) (M : Addr → Prop) (H : Hp) (x : Ex) (cls : Value) (d : Option Addr) : Prop :=
  ∃ C, mg x.nm = some (.ref C) ∧ cls = .ref C ∧ ((x.fs = [] ∧ d = none) ∨ ∃ dd vs, d = some dd ∧ H dd = some (.xd vs) ∧ ¬ M dd ∧ Rkv K mg io M H x.fs vs)
theorem ExR.pers {x : Ex} {cls : Value} {d : Option Addr} (p : Pers io M H io' M' H') (h : ExR K mg io M H x cls d) : ExR K mg io' M' H' x cls d := by
  obtain ⟨C, h1, h2, h3⟩ := h
  refine ⟨C, h1, h2, h3.imp id ?_⟩
  rintro ⟨dd, vs, e1, e2, e3, e4⟩
  exact ⟨dd, vs, e1, p.keep _ _ e2 e3, p.notin e2 e3, e4.pers p⟩
def Mu (io : List Addr) (Fr : Addr → Prop) : Addr → Prop := fun a => a ∈ io ∨ Fr a
structure GSim (K : PySem.W.Frag) (mg : Str → Option Value) (io : List Addr) (Fr : Addr → Prop) (G : List Cell) (H : Hp) : Prop where
  len : io.length = G.length
  cell : ∀ (n : Nat) (a : Addr) (c : Cell), io[n]? = some a → G[n]? = some c → ∃ o, H a = some o ∧ Rc K mg io (Mu io Fr) H c o
  nd : io.Nodup
  dj : ∀ a ∈ io, ¬ Fr a
  fr : ∀ a, Fr a → ∃ o, H a = some o ∧ Nt o
def FrO (Fr : Addr → Prop) (r : List SV) (σ : L2.St) : Addr → Prop := fun a => Fr a ∨ ∃ (i : Nat) (c : Cell), r[i]? = some (.own c) ∧ σ[i]? = some (some (V.ref a))
structure Sim (K : PySem.W.Frag) (mg : Str → Option Value) (ea : EA) (io : List Addr) (Fr : Addr → Prop) (s : S) (σ : L2.St) (H : Hp) : Prop where
  len : s.r.length = σ.length
  g : GSim K mg io (FrO Fr s.r σ) s.G H
  val : ∀ (i : Nat) (w : W), s.r[i]? = some (.val w) → ∃ v, σ[i]? = some (some v) ∧ Rw K mg io (Mu io (FrO Fr s.r σ)) H w v
  own : ∀ (i : Nat) (c : Cell), s.r[i]? = some (.own c) → ∃ a o, σ[i]? = some (some (V.ref a)) ∧ H a = some o ∧ Rc K mg io (Mu io (FrO Fr s.r σ)) H c o ∧ ¬ Fr a
  dist : ∀ (i j : Nat) (c d : Cell) (a : Addr), s.r[i]? = some (.own c) → s.r[j]? = some (.own d) → σ[i]? = some (some (V.ref a)) → σ[j]? = some (some (V.ref a)) → i = j
  exc : ∀ (i : Nat) (x : Ex), s.r[i]? = some (.exc x) → σ[i]? = some (some (V.ref ea.a)) ∧ ExR K mg io (Mu io (FrO Fr s.r σ)) H x ea.cls ea.d
structure Stp (io : List Addr) (M : Addr → Prop) (Fr : Addr → Prop) (H : Hp) (io' : List Addr) (M' : Addr → Prop) (H' : Hp) : Prop where
  p : Pers io M H io' M' H'
  fr : ∀ a, Fr a → H' a = H a
  trk : ∀ a o, H a = some o → ∃ o', H' a = some o'
theorem Stp.refl {Fr : Addr → Prop} : Stp io M Fr H io M H := ⟨.refl, fun _ _ => rfl, fun _ o h => ⟨o, h⟩⟩
theorem Pers.trans {io2 : List Addr} {M2 : Addr → Prop} {H2 : Hp} (a : Pers io M H io' M' H') (b : Pers io' M' H' io2 M2 H2) (t : ∀ x o, H x = some o → ∃ o', H' x = some o') : Pers io M H io2 M2 H2 where
  keep := fun x o h hM => b.keep x o (a.keep x o h hM) (a.notin h hM)
  new := fun x h => by
    rcases b.new x h with q | q
    · exact a.new x q
    · refine .inr ?_
      cases e : H x with
      | none => rfl
      | some o =>
        obtain ⟨o', e'⟩ := t x o e
        rw [q] at e'; cases e'
  ext := fun n x h => b.ext n x (a.ext n x h)
theorem Stp.trans {Fr : Addr → Prop} {io2 : List Addr} {M2 : Addr → Prop} {H2 : Hp} (a : Stp io M Fr H io' M' H') (b : Stp io' M' Fr H' io2 M2 H2) : Stp io M Fr H io2 M2 H2 where
  p := a.p.trans b.p a.trk
  fr := fun x h => (b.fr x h).trans (a.fr x h)
  trk := fun x o h => let ⟨o', h'⟩ := a.trk x o h; b.trk x o' h'
end
end Z
set_option Elab.async false
set_option linter.all false
set_option maxRecDepth 100000
namespace Z
open PySem PySem.Spec PyProof.Rows L2
abbrev Mo (α : Type) := S → Option (Except Ex α × S)
inductive FV where
  | val (w : W)
  | own (c : Cell)
inductive Fl where
  | nx
  | bk
  | ct
  | rt (x : FV)
def ret {α : Type} (a : α) : Mo α := fun s => some (.ok a, s)
def stk {α : Type} : Mo α := fun _ => none
def raiseM {α : Type} (x : Ex) : Mo α := fun s => some (.error x, s)
def bnd {α β : Type} (m : Mo α) (f : α → Mo β) : Mo β := fun s => match m s with
  | none => none
  | some (.error x, s') => some (.error x, s')
  | some (.ok a, s') => f a s'
theorem bnd_some {α β : Type} {m : Mo α} {f : α → Mo β} {s : S} {r : Except Ex β} {s' : S} (h : bnd m f s = some (r, s')) :
    (∃ x, m s = some (.error x, s') ∧ r = .error x) ∨ ∃ a s1, m s = some (.ok a, s1) ∧ f a s1 = some (r, s') := by
  unfold bnd at h
  cases e : m s with
  | none => rw [e] at h; cases h
  | some p =>
    obtain ⟨q, s1⟩ := p
    rw [e] at h
    cases q with
    | error x =>
      have h' : some ((Except.error x : Except Ex β), s1) = some (r, s') := h
      cases h'
      exact .inl ⟨x, rfl, rfl⟩
    | ok a => exact .inr ⟨a, s1, rfl, h⟩
theorem bnd_at {α β : Type} {m : Mo α} {f : α → Mo β} {s s1 : S} {a : α} (h : m s = some (.ok a, s1)) : bnd m f s = f a s1 := by
  unfold bnd; rw [h]
section
variable (K : PySem.W.Frag) (mg : Str → Option Value)
def pls (Fr : Addr → Prop) (a : Addr) : Addr → Prop := fun b => Fr b ∨ b = a
def Ms (io : List Addr) (Fr : Addr → Prop) (s : S) (σ : L2.St) : Addr → Prop := Mu io (FrO Fr s.r σ)
def PostE (ea : EA) (io : List Addr) (Fr : Addr → Prop) (s : S) (σ : L2.St) (H : Hp) (s' : S) (io' : List Addr) (H' : Hp) : RV → V → Prop
  | .val w, v => Sim K mg ea io' Fr s' σ H' ∧ Stp io (Ms io Fr s σ) Fr H io' (Ms io' Fr s' σ) H' ∧ Rw K mg io' (Ms io' Fr s' σ) H' w v
  | .hnd i, v => Sim K mg ea io' Fr s' σ H' ∧ Stp io (Ms io Fr s σ) Fr H io' (Ms io' Fr s' σ) H' ∧ σ[i]? = some (some v)
  | .own c, v => ∃ a o, v = .ref a ∧ H' a = some o ∧ ¬ FrO Fr s'.r σ a ∧ Sim K mg ea io' (pls Fr a) s' σ H' ∧ Stp io (Ms io Fr s σ) Fr H io' (Ms io' (pls Fr a) s' σ) H' ∧ Rc K mg io' (Ms io' (pls Fr a) s' σ) H' c o
def PostX (ea : EA) (io : List Addr) (Fr : Addr → Prop) (s : S) (σ : L2.St) (H : Hp) (s' : S) (σ' : L2.St) (io' : List Addr) (H' : Hp) (x : Ex) (cls : Value) (d : Option Addr) : Prop :=
  Sim K mg ea io' Fr s' σ' H' ∧ Stp io (Ms io Fr s σ) Fr H io' (Ms io' Fr s' σ') H' ∧ ExR K mg io' (Ms io' Fr s' σ') H' x cls d
def PostS (ea : EA) (io : List Addr) (Fr : Addr → Prop) (s : S) (σ : L2.St) (H : Hp) (s' : S) (σ' : L2.St) (io' : List Addr) (H' : Hp) : Prop :=
  Sim K mg ea io' Fr s' σ' H' ∧ Stp io (Ms io Fr s σ) Fr H io' (Ms io' Fr s' σ') H'
def PostF (io : List Addr) (M Fr : Addr → Prop) (H : Hp) (G' : List Cell) (io' : List Addr) (H' : Hp) : FV → V → Prop
  | .val w, v => GSim K mg io' Fr G' H' ∧ Stp io M Fr H io' (Mu io' Fr) H' ∧ Rw K mg io' (Mu io' Fr) H' w v
  | .own c, v => ∃ a o, v = .ref a ∧ H' a = some o ∧ ¬ Fr a ∧ GSim K mg io' (pls Fr a) G' H' ∧ Stp io M Fr H io' (Mu io' (pls Fr a)) H' ∧ Rc K mg io' (Mu io' (pls Fr a)) H' c o
def RvR (io : List Addr) (M : Addr → Prop) (σ : L2.St) (H : Hp) : RV → V → Prop
  | .val w, v => Rw K mg io M H w v
  | .hnd i, v => σ[i]? = some (some v)
  | .own _, _ => False
def Rn (io : List Addr) (M : Addr → Prop) (H : Hp) (w : W) (v : V) : Prop := Rw K mg io M H w v ∨ ∃ c o a, w = Cell.toW c ∧ v = .ref a ∧ H a = some o ∧ Rc K mg io M H c o
variable (ea : EA) (Wx : WX)
def RefE (t : TE) (m : Mo RV) : Prop := ∀ (σ : L2.St) (H : Hp) (io : List Addr) (Fr : Addr → Prop) (s : S), Sim K mg ea io Fr s σ H → ∀ r s', m s = some (r, s') → ∀ Q : VK,
  (∀ x, r = .ok x → ∀ v H' io', PostE K mg ea io Fr s σ H s' io' H' x v → Q v H') → (∀ x, r = .error x → ∀ cls d H' io', PostX K mg ea io Fr s σ H s' σ io' H' x cls d → Wx cls d σ H') → t σ H Q
def RefT (t : TT) (m : Mo Bool) : Prop := ∀ (σ : L2.St) (H : Hp) (io : List Addr) (Fr : Addr → Prop) (s : S), Sim K mg ea io Fr s σ H → ∀ r s', m s = some (r, s') → ∀ Q : Bool → Hp → Prop,
  (∀ b, r = .ok b → ∀ H' io', PostS K mg ea io Fr s σ H s' σ io' H' → Q b H') → (∀ x, r = .error x → ∀ cls d H' io', PostX K mg ea io Fr s σ H s' σ io' H' x cls d → Wx cls d σ H') → t σ H Q
def RefA (t : TA) (m : Mo (List RV)) : Prop := ∀ (σ : L2.St) (H : Hp) (io : List Addr) (Fr : Addr → Prop) (s : S), Sim K mg ea io Fr s σ H → ∀ r s', m s = some (r, s') → ∀ Q : List V → Hp → Prop,
  (∀ xs, r = .ok xs → ∀ vs H' io', PostS K mg ea io Fr s σ H s' σ io' H' → Paired (RvR K mg io' (Ms io' Fr s' σ) σ H') xs vs → Q vs H') → (∀ x, r = .error x → ∀ cls d H' io', PostX K mg ea io Fr s σ H s' σ io' H' x cls d → Wx cls d σ H') → t σ H Q
def RefS (t : TS) (m : Mo Fl) : Prop := ∀ (σ : L2.St) (H : Hp) (io : List Addr) (Fr : Addr → Prop) (s : S), Sim K mg ea io Fr s σ H → ∀ r s', m s = some (r, s') → ∀ D : Ends,
  (r = .ok .nx → ∀ σ' H' io', PostS K mg ea io Fr s σ H s' σ' io' H' → D.nx σ' H') → (r = .ok .bk → ∀ σ' H' io', PostS K mg ea io Fr s σ H s' σ' io' H' → D.bk σ' H') →
  (r = .ok .ct → ∀ σ' H' io', PostS K mg ea io Fr s σ H s' σ' io' H' → D.ct σ' H') → (∀ f, r = .ok (.rt f) → ∀ v H' io', PostF K mg io (Ms io Fr s σ) Fr H s'.G io' H' f v → D.rt v H') →
  (∀ x, r = .error x → ∀ cls d σ' H' io', PostX K mg ea io Fr s σ H s' σ' io' H' x cls d → Wx cls d σ' H') → t D σ H
end
structure Pee (X : Cx) (ea : EA) (Wx : WX) (e : Expr) (m : Mo RV) : Prop where
  ex : ∃ t, PE X e t ∧ RefE X.K X.mg ea Wx t m
structure Pet (X : Cx) (ea : EA) (Wx : WX) (e : Expr) (m : Mo Bool) : Prop where
  ex : ∃ t, PT X e t ∧ RefT X.K X.mg ea Wx t m
structure Pew (X : Cx) (ea : EA) (Wx : WX) (e : Expr) (m : Mo Bool) : Prop where
  ex : ∃ t, PW X e t ∧ RefT X.K X.mg ea Wx t m
structure Pea (X : Cx) (ea : EA) (Wx : WX) (es : List Expr) (m : Mo (List RV)) : Prop where
  ex : ∃ t, PA X es t ∧ RefA X.K X.mg ea Wx t m
structure Pes (X : Cx) (ea : EA) (Wx : WX) (st : Stmt) (m : Mo Fl) : Prop where
  ex : ∃ t, PS X st t ∧ RefS X.K X.mg ea Wx t m
structure Pess (X : Cx) (ea : EA) (Wx : WX) (st : List Stmt) (m : Mo Fl) : Prop where
  ex : ∃ t, PSs X st t ∧ RefS X.K X.mg ea Wx t m
section
variable {K : PySem.W.Frag} {mg : Str → Option Value} {ea : EA} {io io' : List Addr} {Fr Fr' : Addr → Prop} {s s' : S} {σ σ' : L2.St} {H H' : Hp} {w : W} {v : V} {c : Cell} {o : HO} {a : Addr}
theorem FrO.mono {r : List SV} (h : ∀ b, Fr' b → Fr b) : ∀ b, FrO Fr' r σ b → FrO Fr r σ b := fun b z => z.imp (h b) id
theorem Ms.mono (h : ∀ b, Fr' b → Fr b) : ∀ b, Ms io Fr' s σ b → Ms io Fr s σ b := fun b z => z.imp id (FrO.mono h b)
theorem pls.sub : ∀ b, Fr b → pls Fr a b := fun _ z => .inl z
theorem Ms.pls_sub : ∀ b, Ms io Fr s σ b → Ms io (pls Fr a) s σ b := Ms.mono pls.sub
theorem GSim.less (g : GSim K mg io Fr s.G H) (h : ∀ b, Fr' b → Fr b) : GSim K mg io Fr' s.G H where
  len := g.len
  cell := fun n a c h1 h2 => let ⟨o, e, q⟩ := g.cell n a c h1 h2; ⟨o, e, q.pers (.less fun b z => z.imp id (h b))⟩
  nd := g.nd
  dj := fun a ha z => g.dj a ha (h a z)
  fr := fun a z => g.fr a (h a z)
theorem Sim.less (x : Sim K mg ea io Fr s σ H) (h : ∀ b, Fr' b → Fr b) : Sim K mg ea io Fr' s σ H where
  len := x.len
  g := x.g.less (FrO.mono h)
  val := fun i w e => let ⟨v, q1, q2⟩ := x.val i w e; ⟨v, q1, q2.pers (.less (Ms.mono h))⟩
  own := fun i c e => let ⟨a, o, q1, q2, q3, q4⟩ := x.own i c e; ⟨a, o, q1, q2, q3.pers (.less (Ms.mono h)), fun z => q4 (h a z)⟩
  dist := x.dist
  exc := fun i e q => let ⟨h1, h2⟩ := x.exc i e q; ⟨h1, h2.pers (.less (Ms.mono h))⟩
theorem Stp.less {M M' M2 : Addr → Prop} (x : Stp io M Fr H io' M' H') (h : ∀ b, M2 b → M' b) : Stp io M Fr H io' M2 H' := ⟨⟨x.p.keep, fun a z => x.p.new a (h a z), x.p.ext⟩, x.fr, x.trk⟩
theorem Rn.of (h : Rw K mg io (Ms io Fr s σ) H w v) : Rn K mg io (Ms io Fr s σ) H w v := .inl h
@[simp] def settle : RV → RV
  | .own c => .val c.toW
  | x => x
theorem PostE.settled {x : RV} (h : PostE K mg ea io Fr s σ H s' io' H' x v) : Sim K mg ea io' Fr s' σ H' ∧ Stp io (Ms io Fr s σ) Fr H io' (Ms io' Fr s' σ) H' ∧ RvR K mg io' (Ms io' Fr s' σ) σ H' (settle x) v := by
  cases x with
  | val w => exact h
  | hnd i => exact h
  | own c =>
    obtain ⟨a, o, rfl, ha, hn, S, T, R⟩ := h
    refine ⟨S.less pls.sub, T.less Ms.pls_sub, ?_⟩
    have ni : a ∉ io' := fun z => S.g.dj a z (.inl (.inr rfl))
    exact (R.pers (.less Ms.pls_sub)).froze ha fun z => z.elim ni hn
def derefW (s : S) : W → Option W
  | .ref n => (s.G[n]?).map Cell.toW
  | w => some w
def look : RV → Mo W
  | .val w => fun s => (derefW s w).map fun z => (.ok z, s)
  | .own c => ret c.toW
  | .hnd i => fun s => match s.r[i]? with
    | some (.own c) => some (.ok c.toW, s)
    | some (.val w) => (derefW s w).map fun z => (.ok z, s)
    | _ => none
theorem deref_ok (S : Sim K mg ea io Fr s σ H) (h : Rw K mg io (Ms io Fr s σ) H w v) {z : W} (e : derefW s w = some z) : Rn K mg io (Ms io Fr s σ) H z v := by
  cases w with
  | ref n =>
    simp only [derefW, Option.map_eq_some_iff] at e
    obtain ⟨c, e1, rfl⟩ := e
    cases h with
    | ref h =>
      obtain ⟨o, ho, hc⟩ := S.g.cell n _ c h e1
      exact .inr ⟨c, o, _, rfl, rfl, ho, hc⟩
  | _ => simp only [derefW, Option.some.injEq] at e; subst e; exact .inl h
theorem look_ok (S : Sim K mg ea io Fr s σ H) {x : RV} (h : RvR K mg io (Ms io Fr s σ) σ H x v) {r : Except Ex W} (e : look x s = some (r, s')) : s' = s ∧ ∃ z, r = .ok z ∧ Rn K mg io (Ms io Fr s σ) H z v := by
  cases x with
  | own c => exact h.elim
  | val w =>
    simp only [look, Option.map_eq_some_iff] at e
    obtain ⟨z, e1, e2⟩ := e
    cases e2
    exact ⟨rfl, z, rfl, deref_ok S h e1⟩
  | hnd i =>
    have h' : σ[i]? = some (some v) := h
    simp only [look] at e
    split at e
    · rename_i c q
      cases e
      obtain ⟨a, o, h1, h2, h3, h4⟩ := S.own i c q
      rw [h'] at h1
      cases h1
      exact ⟨rfl, _, rfl, .inr ⟨c, o, a, rfl, rfl, h2, h3⟩⟩
    · rename_i w q
      simp only [Option.map_eq_some_iff] at e
      obtain ⟨z, e1, e2⟩ := e
      cases e2
      obtain ⟨u, h1, h2⟩ := S.val i w q
      rw [h'] at h1
      cases h1
      exact ⟨rfl, z, rfl, deref_ok S h2 e1⟩
    · cases e
def freeze : RV → Mo W
  | .val w => ret w
  | .own c => ret c.toW
  | .hnd i => fun s => match s.r[i]? with
    | some (.own c) => some (.ok c.toW, { s with r := s.r.set i (.val c.toW) })
    | some (.val w) => some (.ok w, s)
    | _ => none
theorem get_lt {α : Type} {l : List α} {i : Nat} {x : α} (h : l[i]? = some x) : i < l.length := by
  rcases Nat.lt_or_ge i l.length with q | q
  · exact q
  · rw [List.getElem?_eq_none_iff.mpr q] at h; cases h
theorem FrO.froze {r : List SV} {i : Nat} {w : W} : ∀ b, FrO Fr (r.set i (.val w)) σ b → FrO Fr r σ b := fun b z => z.imp id fun ⟨j, d, h1, h2⟩ => by
  by_cases e : i = j
  · subst e
    have := get_lt h1
    rw [List.getElem?_set_self (by simpa using this)] at h1
    cases h1
  · rw [List.getElem?_set_ne e] at h1
    exact ⟨j, d, h1, h2⟩
theorem Sim.freeze {i : Nat} (x : Sim K mg ea io Fr s σ H) (e : s.r[i]? = some (.own c)) : Sim K mg ea io Fr { s with r := s.r.set i (.val c.toW) } σ H ∧ ∀ v, σ[i]? = some (some v) → Rw K mg io (Ms io Fr { s with r := s.r.set i (.val c.toW) } σ) H c.toW v := by
  have hi := get_lt e
  obtain ⟨a, o, h1, h2, h3, h4⟩ := x.own i c e
  have le : ∀ b, Ms io Fr { s with r := s.r.set i (.val c.toW) } σ b → Ms io Fr s σ b := fun b z => z.imp id (FrO.froze b)
  have nm : ¬ Ms io Fr { s with r := s.r.set i (.val c.toW) } σ a := fun z => by
    rcases z with z | z | ⟨j, d, q1, q2⟩
    · exact x.g.dj a z (.inr ⟨i, c, e, h1⟩)
    · exact h4 z
    · by_cases ij : i = j
      · subst ij
        rw [List.getElem?_set_self hi] at q1
        cases q1
      · rw [List.getElem?_set_ne ij] at q1
        exact ij (x.dist i j c d a e q1 h1 q2)
  have fz : Rw K mg io (Ms io Fr { s with r := s.r.set i (.val c.toW) } σ) H c.toW (.ref a) := (h3.pers (.less le)).froze h2 nm
  refine ⟨⟨by simpa using x.len, x.g.less (s := s) (FrO.froze), fun j w q => ?_, fun j d q => ?_, fun j k d d' b q1 q2 => ?_, fun j y q => ?_⟩, fun v hv => ?_⟩
  · by_cases ij : i = j
    · subst ij
      rw [List.getElem?_set_self hi] at q
      cases q
      exact ⟨_, h1, fz⟩
    · rw [List.getElem?_set_ne ij] at q
      obtain ⟨v, q1, q2⟩ := x.val j w q
      exact ⟨v, q1, q2.pers (.less le)⟩
  · by_cases ij : i = j
    · subst ij
      rw [List.getElem?_set_self hi] at q
      cases q
    · rw [List.getElem?_set_ne ij] at q
      obtain ⟨b, p, q1, q2, q3, q4⟩ := x.own j d q
      exact ⟨b, p, q1, q2, q3.pers (.less le), q4⟩
  · by_cases ij : i = j
    · subst ij
      rw [List.getElem?_set_self hi] at q1
      cases q1
    · by_cases ik : i = k
      · subst ik
        rw [List.getElem?_set_self hi] at q2
        cases q2
      · rw [List.getElem?_set_ne ij] at q1
        rw [List.getElem?_set_ne ik] at q2
        exact x.dist j k d d' b q1 q2
  · by_cases ij : i = j
    · subst ij
      rw [List.getElem?_set_self hi] at q
      cases q
    · rw [List.getElem?_set_ne ij] at q
      obtain ⟨h1, h2⟩ := x.exc j y q
      exact ⟨h1, h2.pers (.less le)⟩
  · rw [h1] at hv
    cases hv
    exact fz
theorem freeze_ok (S : Sim K mg ea io Fr s σ H) {x : RV} (h : RvR K mg io (Ms io Fr s σ) σ H x v) {r : Except Ex W} (e : freeze x s = some (r, s')) : s'.G = s.G ∧ (∀ b, Ms io Fr s' σ b → Ms io Fr s σ b) ∧ Sim K mg ea io Fr s' σ H ∧ ∃ z, r = .ok z ∧ Rw K mg io (Ms io Fr s' σ) H z v := by
  cases x with
  | own c => exact h.elim
  | val w => cases e; exact ⟨rfl, fun _ z => z, S, w, rfl, h⟩
  | hnd i =>
    have h' : σ[i]? = some (some v) := h
    simp only [Z.freeze] at e
    split at e
    · rename_i c q
      cases e
      obtain ⟨S', f⟩ := S.freeze q
      exact ⟨rfl, fun b z => z.imp id (FrO.froze b), S', _, rfl, f v h'⟩
    · rename_i w q
      cases e
      obtain ⟨u, h1, h2⟩ := S.val i w q
      rw [h'] at h1
      cases h1
      exact ⟨rfl, fun _ z => z, S, w, rfl, h2⟩
    · cases e
theorem RvR.pers {x : RV} {M M' : Addr → Prop} (p : Pers io M H io' M' H') (h : RvR K mg io M σ H x v) : RvR K mg io' M' σ H' x v := by
  cases x with
  | own c => exact h
  | val w => exact Rw.pers p h
  | hnd i => exact h
end
end Z
set_option Elab.async false
set_option linter.all false
set_option maxRecDepth 100000
namespace Z
open PySem PySem.Spec PyProof.Rows L2
section
variable {K : PySem.W.Frag} {mg : Str → Option Value} {ea : EA} {io io' : List Addr} {Fr Fr' : Addr → Prop} {s s' s2 : S} {σ σ' : L2.St} {H H' : Hp} {w : W} {v : V} {c : Cell} {o : HO} {a p : Addr}
theorem Sim.trkN (x : Sim K mg ea io Fr s σ H) (h : Ms io Fr s σ a) : ∃ o, H a = some o ∧ Nt o := by
  rcases h with h | h
  · obtain ⟨n, hn⟩ := List.mem_iff_getElem?.mp h
    have hl := get_lt hn
    rw [x.g.len] at hl
    obtain ⟨o, e, r⟩ := x.g.cell n a s.G[n] hn (by simp [hl])
    exact ⟨o, e, r.nt⟩
  · exact x.g.fr a h
theorem Sim.trk (x : Sim K mg ea io Fr s σ H) (h : Ms io Fr s σ a) : ∃ o, H a = some o := let ⟨o, e, _⟩ := x.trkN h; ⟨o, e⟩
theorem Sim.move (x : Sim K mg ea io Fr s σ H) (q : Pers io (Ms io Fr s σ) H io (Ms io Fr' s σ) H') (same : ∀ a, Ms io Fr s σ a → H' a = H a)
    (dj : ∀ a, Fr' a → a ∉ io) (dj2 : ∀ a (i : Nat) c, Fr' a → s.r[i]? = some (.own c) → σ[i]? = some (some (V.ref a)) → False) (tr : ∀ a, Fr' a → ∃ o, H' a = some o ∧ Nt o) : Sim K mg ea io Fr' s σ H' where
  len := x.len
  g := ⟨x.g.len, fun n a c h1 h2 => by
      obtain ⟨o, e, r⟩ := x.g.cell n a c h1 h2
      exact ⟨o, by rw [same a (.inl (List.mem_of_getElem? h1))]; exact e, r.pers q⟩,
    x.g.nd, fun a ha z => by
      rcases z with z | z
      · exact dj a z ha
      · exact x.g.dj a ha (.inr z), fun a z => by
      rcases z with z | ⟨i, c, h1, h2⟩
      · exact tr a z
      · obtain ⟨b, o, q1, q2, q3, _⟩ := x.own i c h1
        rw [h2] at q1; cases q1
        exact ⟨o, by rw [same a (.inr (.inr ⟨i, c, h1, h2⟩))]; exact q2, q3.nt⟩⟩
  val := fun i w e => let ⟨v, q1, q2⟩ := x.val i w e; ⟨v, q1, q2.pers q⟩
  own := fun i c e => by
    obtain ⟨a, o, q1, q2, q3, _⟩ := x.own i c e
    exact ⟨a, o, q1, by rw [same a (.inr (.inr ⟨i, c, e, q1⟩))]; exact q2, q3.pers q, fun z => dj2 a i c z e q1⟩
  dist := x.dist
  exc := fun i e k => let ⟨h1, h2⟩ := x.exc i e k; ⟨h1, h2.pers q⟩
theorem Sim.laid (x : Sim K mg ea io Fr s σ H) (hp : H p = none) : Sim K mg ea io Fr s σ (upd H p o) ∧ Stp io (Ms io Fr s σ) Fr H io (Ms io Fr s σ) (upd H p o) := by
  have ne : ∀ b u, H b = some u → upd H p o b = some u := fun b u e => by rw [upd_ne (ne_of_none e hp)]; exact e
  have same : ∀ b, Ms io Fr s σ b → upd H p o b = H b := fun b z => by
    obtain ⟨u, e⟩ := x.trk z
    rw [ne b u e, e]
  have q : Pers io (Ms io Fr s σ) H io (Ms io Fr s σ) (upd H p o) := ⟨fun b u e _ => ne b u e, fun b z => .inl z, fun _ _ e => e⟩
  refine ⟨x.move q same (fun b z h => x.g.dj b h (.inl z)) (fun b i c z h1 h2 => ?_) (fun b z => ?_), q, fun b z => same b (.inr (.inl z)), fun b u e => ⟨u, ne b u e⟩⟩
  · obtain ⟨a', o', q1, _, _, q4⟩ := x.own i c h1
    rw [h2] at q1; cases q1
    exact q4 z
  · obtain ⟨u, e, n⟩ := x.trkN (a := b) (.inr (.inl z))
    exact ⟨u, ne b u e, n⟩
theorem Sim.alloc (x : Sim K mg ea io Fr s σ H) (hp : H p = none) (hN : Nt o := by intro _ z; cases z) : Sim K mg ea io (pls Fr p) s σ (upd H p o) ∧ Stp io (Ms io Fr s σ) Fr H io (Ms io (pls Fr p) s σ) (upd H p o) ∧ ¬ FrO Fr s.r σ p := by
  have ne : ∀ b u, H b = some u → upd H p o b = some u := fun b u e => by rw [upd_ne (ne_of_none e hp)]; exact e
  have same : ∀ b, Ms io Fr s σ b → upd H p o b = H b := fun b z => by
    obtain ⟨u, e⟩ := x.trk z
    rw [ne b u e, e]
  have nM : ¬ Ms io Fr s σ p := fun z => by
    obtain ⟨u, e⟩ := x.trk z
    rw [hp] at e; cases e
  have q : Pers io (Ms io Fr s σ) H io (Ms io (pls Fr p) s σ) (upd H p o) := ⟨fun b u e _ => ne b u e, fun b z => by
    rcases z with z | (z | z) | z
    · exact .inl (.inl z)
    · exact .inl (.inr (.inl z))
    · exact .inr (by rw [z]; exact hp)
    · exact .inl (.inr (.inr z)), fun _ _ e => e⟩
  refine ⟨x.move q same (fun b z h => ?_) (fun b i c z h1 h2 => ?_) (fun b z => ?_), ⟨q, fun b z => same b (.inr (.inl z)), fun b u e => ⟨u, ne b u e⟩⟩, fun z => nM (.inr z)⟩
  · rcases z with z | z
    · exact x.g.dj b h (.inl z)
    · exact nM (.inl (z ▸ h))
  · obtain ⟨a', o', q1, _, _, q4⟩ := x.own i c h1
    rw [h2] at q1; cases q1
    rcases z with z | z
    · exact q4 z
    · exact nM (.inr (.inr ⟨i, c, h1, z ▸ h2⟩))
  · rcases z with z | z
    · obtain ⟨u, e, n⟩ := x.trkN (a := b) (.inr (.inl z))
      exact ⟨u, ne b u e, n⟩
    · exact ⟨o, by rw [z, upd_same], hN⟩
theorem Stp.frless {M M' : Addr → Prop} (x : Stp io M Fr H io' M' H') (h : ∀ b, Fr' b → Fr b) : Stp io M Fr' H io' M' H' := ⟨x.p, fun a z => x.fr a (h a z), x.trk⟩
theorem Sim.call {G' : List Cell} (x : Sim K mg ea io Fr s σ H) (g : GSim K mg io' (FrO Fr' s.r σ) G' H') (T : Stp io (Ms io Fr s σ) (FrO Fr s.r σ) H io' (Mu io' (FrO Fr' s.r σ)) H')
    (n : ∀ a (i : Nat) c, s.r[i]? = some (.own c) → σ[i]? = some (some (V.ref a)) → ¬ Fr' a) : Sim K mg ea io' Fr' { s with G := G' } σ H' where
  len := x.len
  g := g
  val := fun i w e => let ⟨v, q1, q2⟩ := x.val i w e; ⟨v, q1, q2.pers T.p⟩
  own := fun i c e => by
    obtain ⟨a, o, q1, q2, q3, _⟩ := x.own i c e
    exact ⟨a, o, q1, by rw [T.fr a (.inr ⟨i, c, e, q1⟩)]; exact q2, q3.pers T.p, n a i c e q1⟩
  dist := x.dist
  exc := fun i e k => let ⟨h1, h2⟩ := x.exc i e k; ⟨h1, h2.pers T.p⟩
inductive OR where
  | imm (w : W)
  | newl (ws : List W)
  | newt (ws : List W)
@[simp] def OR.toRV : OR → RV
  | .imm w => .val w
  | .newl ws => .own (.lst ws)
  | .newt ws => .val (.tup ws)
def OQ (K : PySem.W.Frag) (mg : Str → Option Value) (io : List Addr) (M : Addr → Prop) (H : Hp) (z : OR) (Q : VK) : Prop := match z with
  | .imm w => ∀ v, Rw K mg io M H w v → Q v H
  | .newl ws => ∀ p vs, H p = none → Rws K mg io M H ws vs → Q (.ref p) (upd H p (.lst vs))
  | .newt ws => ∀ p vs, H p = none → Rws K mg io M H ws vs → Q (.ref p) (upd H p (.tup vs))
theorem OQ.post {z : OR} (x : Sim K mg ea io' Fr s2 σ H') (T : Stp io (Ms io Fr s σ) Fr H io' (Ms io' Fr s2 σ) H') {Q : VK}
    (hok : ∀ v H2 io2, PostE K mg ea io Fr s σ H s2 io2 H2 z.toRV v → Q v H2) : OQ K mg io' (Ms io' Fr s2 σ) H' z Q := by
  cases z with
  | imm w => exact fun v r => hok v _ _ ⟨x, T, r⟩
  | newl ws =>
    intro p vs hp r
    obtain ⟨S, T2, nf⟩ := x.alloc (o := .lst vs) hp
    exact hok _ _ _ ⟨p, .lst vs, rfl, upd_same, nf, S, T.trans T2, vs, rfl, r.pers T2.p⟩
  | newt ws =>
    intro p vs hp r
    obtain ⟨S, T2⟩ := x.laid (o := .tup vs) hp
    have r' := r.pers T2.p
    refine hok _ _ _ ⟨S, T.trans T2, .tup (.inl ⟨upd_same, fun z => ?_⟩) r'.1 r'.2⟩
    obtain ⟨u, e⟩ := x.trk z
    rw [hp] at e; cases e
def OpM (X : Cx) (g : Value → Value → Sem Value) (f : W → W → Option OR) : Prop :=
  ∃ r : R2, OpR X g r ∧ ∀ io M H x y vx vy z Q, Rn X.K X.mg io M H x vx → Rn X.K X.mg io M H y vy → f x y = some z → OQ X.K X.mg io M H z Q → r vx vy H Q
def UnM (X : Cx) (g : Value → Sem Value) (f : W → Option OR) : Prop :=
  ∃ r : V → Hp → VK → Prop, UnR X g r ∧ ∀ io M H x vx z Q, Rn X.K X.mg io M H x vx → f x = some z → OQ X.K X.mg io M H z Q → r vx H Q
def orf {α β γ : Type} (f g : α → β → Option γ) : α → β → Option γ := fun x y => match f x y with
  | some z => some z
  | none => g x y
theorem OpM.or {X : Cx} {g : Value → Value → Sem Value} {f f' : W → W → Option OR} (h : OpM X g f) (h' : OpM X g f') : OpM X g (orf f f') := by
  obtain ⟨r, a, b⟩ := h
  obtain ⟨r', a', b'⟩ := h'
  refine ⟨_, a.or a', fun io M H x y vx vy z Q rx ry e q => ?_⟩
  unfold orf at e
  cases k : f x y with
  | some z' =>
    rw [k] at e
    cases e
    exact .inl (b io M H x y vx vy z Q rx ry k q)
  | none =>
    rw [k] at e
    exact .inr (b' io M H x y vx vy z Q rx ry e q)
def liftO (z : Option OR) : Mo RV := match z with
  | some z => ret z.toRV
  | none => stk
def opM (f : W → W → Option OR) (x y : RV) : Mo RV := bnd (look x) fun wx => bnd (look y) fun wy => liftO (f wx wy)
def mBin (f : W → W → Option OR) (ma mb : Mo RV) : Mo RV := bnd ma fun x => bnd mb fun y => opM f (settle x) (settle y)
def mUn (f : W → Option OR) (ma : Mo RV) : Mo RV := bnd ma fun x => bnd (look (settle x)) fun wx => liftO (f wx)
theorem liftO_some {z : Option OR} {r : Except Ex RV} (h : liftO z s = some (r, s')) : s' = s ∧ ∃ u, z = some u ∧ r = .ok u.toRV := by
  cases z with
  | none => cases h
  | some u => cases h; exact ⟨rfl, u, rfl, rfl⟩
section
variable {Wx : WX} {ta tb tc : TE} {ma mb mc : Mo RV}
theorem bin2 (ha : RefE K mg ea Wx ta ma) (hb : RefE K mg ea Wx tb mb) (S0 : Sim K mg ea io Fr s σ H) {α : Type} {f : RV → RV → Mo α} {r : Except Ex α}
    (e : bnd ma (fun x => bnd mb fun y => f (settle x) (settle y)) s = some (r, s'))
    (hex : ∀ x, r = .error x → ∀ cls d H' io', PostX K mg ea io Fr s σ H s' σ io' H' x cls d → Wx cls d σ H')
    {R : V → V → Hp → Prop} (hR : ∀ x y s2 vx vy H2 io2, f x y s2 = some (r, s') → Sim K mg ea io2 Fr s2 σ H2 → Stp io (Ms io Fr s σ) Fr H io2 (Ms io2 Fr s2 σ) H2 →
      RvR K mg io2 (Ms io2 Fr s2 σ) σ H2 x vx → RvR K mg io2 (Ms io2 Fr s2 σ) σ H2 y vy → R vx vy H2) : ta σ H fun x H1 => tb σ H1 fun y H2 => R x y H2 := by
  rcases bnd_some e with ⟨x, e1, rfl⟩ | ⟨x, s1, e1, e2⟩
  · exact ha σ H io Fr s S0 _ _ e1 _ (fun _ q => by cases q) fun x' q cls d H' io' px => by
      cases q
      exact hex _ rfl cls d H' io' px
  · refine ha σ H io Fr s S0 _ _ e1 _ (fun x' q vx H1 io1 px => ?_) (fun _ q => by cases q)
    cases q
    obtain ⟨S1, T1, R1⟩ := px.settled
    rcases bnd_some e2 with ⟨y, e3, rfl⟩ | ⟨y, s2, e3, e4⟩
    · exact hb σ H1 io1 Fr s1 S1 _ _ e3 _ (fun _ q => by cases q) fun x' q cls d H' io' py => by
        cases q
        exact hex _ rfl cls d H' io' ⟨py.1, T1.trans py.2.1, py.2.2⟩
    · refine hb σ H1 io1 Fr s1 S1 _ _ e3 _ (fun y' q vy H2 io2 py => ?_) (fun _ q => by cases q)
      cases q
      obtain ⟨S2, T2, R2⟩ := py.settled
      exact hR _ _ s2 vx vy H2 io2 e4 S2 (T1.trans T2) (R1.pers T2.p) R2
theorem ref_op {X : Cx} {g : Value → Value → Sem Value} {f : W → W → Option OR} {r : R2} (hr : ∀ io M H x y vx vy z Q, Rn K mg io M H x vx → Rn K mg io M H y vy → f x y = some z → OQ K mg io M H z Q → r vx vy H Q)
    (ha : RefE K mg ea Wx ta ma) (hb : RefE K mg ea Wx tb mb) : RefE K mg ea Wx (tOp r ta tb) (mBin f ma mb) := by
  intro σ H io Fr s S0 r0 s' e Q hok hex
  refine bin2 ha hb S0 e hex fun x y s2 vx vy H2 io2 e4 S2 T2 rx ry => ?_
  rcases bnd_some e4 with ⟨z, e5, rfl⟩ | ⟨wx, s3, e5, e6⟩
  · obtain ⟨_, _, q, _⟩ := look_ok S2 rx e5
    cases q
  · obtain ⟨rfl, wx', q, nx⟩ := look_ok S2 rx e5
    cases q
    rcases bnd_some e6 with ⟨z, e7, rfl⟩ | ⟨wy, s4, e7, e8⟩
    · obtain ⟨_, _, q, _⟩ := look_ok S2 ry e7
      cases q
    · obtain ⟨rfl, wy', q, ny⟩ := look_ok S2 ry e7
      cases q
      obtain ⟨rfl, u, hu, rfl⟩ := liftO_some e8
      exact hr _ _ _ _ _ _ _ _ _ nx ny hu (OQ.post S2 T2 fun v H3 io3 px => hok _ rfl v H3 io3 px)
theorem ref_un {f : W → Option OR} {r : V → Hp → VK → Prop} (hr : ∀ io M H x vx z Q, Rn K mg io M H x vx → f x = some z → OQ K mg io M H z Q → r vx H Q)
    (ha : RefE K mg ea Wx ta ma) : RefE K mg ea Wx (tUn r ta) (mUn f ma) := by
  intro σ H io Fr s S0 r0 s' e Q hok hex
  rcases bnd_some e with ⟨x, e1, rfl⟩ | ⟨x, s1, e1, e2⟩
  · exact ha σ H io Fr s S0 _ _ e1 _ (fun _ q => by cases q) fun x' q cls d H' io' px => by
      cases q
      exact hex _ rfl cls d H' io' px
  · refine ha σ H io Fr s S0 _ _ e1 _ (fun x' q vx H1 io1 px => ?_) (fun _ q => by cases q)
    cases q
    obtain ⟨S1, T1, R1⟩ := px.settled
    rcases bnd_some e2 with ⟨z, e5, rfl⟩ | ⟨wx, s3, e5, e6⟩
    · obtain ⟨_, _, q, _⟩ := look_ok S1 R1 e5
      cases q
    · obtain ⟨rfl, wx', q, nx⟩ := look_ok S1 R1 e5
      cases q
      obtain ⟨rfl, u, hu, rfl⟩ := liftO_some e6
      exact hr _ _ _ _ _ _ _ nx hu (OQ.post S1 T1 fun v H3 io3 px => hok _ rfl v H3 io3 px)
end
def mName (i : Nat) : Mo RV := fun s => match s.r[i]? with
  | some (.val w) => some (.ok (.val w), s)
  | some (.own _) => some (.ok (.hnd i), s)
  | _ => none
def mC (w : W) : Mo RV := ret (.val w)
variable {Wx : WX}
theorem ref_name (i : Nat) : RefE K mg ea Wx (tVar i) (mName i) := by
  intro σ H io Fr s S0 r0 s' e Q hok hex
  unfold mName at e
  split at e
  · rename_i w q
    cases e
    obtain ⟨v, q1, q2⟩ := S0.val i w q
    exact ⟨v, q1, hok _ rfl v H io ⟨S0, .refl, q2⟩⟩
  · rename_i c q
    cases e
    obtain ⟨a, o, q1, _⟩ := S0.own i c q
    exact ⟨_, q1, hok _ rfl _ H io ⟨S0, .refl, q1⟩⟩
  · cases e
theorem ref_c {w : W} {v : V} (h : ∀ io M H, Rw K mg io M H w v) : RefE K mg ea Wx (tC v) (mC w) := by
  intro σ H io Fr s S0 r0 s' e Q hok hex
  cases e
  exact hok _ rfl v H io ⟨S0, .refl, h _ _ _⟩
def toB : RV → Mo Bool
  | .val (.bl b) => ret b
  | _ => stk
def mB (m : Mo RV) : Mo Bool := bnd m toB
theorem toB_some {x : RV} {r : Except Ex Bool} (h : toB x s = some (r, s')) : s' = s ∧ ∃ b, x = .val (.bl b) ∧ r = .ok b := by
  unfold toB at h
  split at h
  · rename_i b
    cases h; exact ⟨rfl, b, rfl, rfl⟩
  · cases h
theorem ref_test {t : TE} {m : Mo RV} (h : RefE K mg ea Wx t m) : RefT K mg ea Wx (tTest t) (mB m) := by
  intro σ H io Fr s S0 r0 s' e Q hok hex
  rcases bnd_some e with ⟨x, e1, rfl⟩ | ⟨x, s1, e1, e2⟩
  · exact h σ H io Fr s S0 _ _ e1 _ (fun _ q => by cases q) fun x' q cls d H' io' px => by
      cases q
      exact hex _ rfl cls d H' io' px
  · refine h σ H io Fr s S0 _ _ e1 _ (fun x' q vx H1 io1 px => ?_) (fun _ q => by cases q)
    cases q
    obtain ⟨rfl, b, rfl, rfl⟩ := toB_some e2
    obtain ⟨S1, T1, R1⟩ := px
    cases R1
    exact ⟨b, rfl, hok _ rfl H1 io1 ⟨S1, T1⟩⟩
def mAnd (a b : Mo Bool) : Mo Bool := bnd a fun x => if x = true then b else ret false
def mOr (a b : Mo Bool) : Mo Bool := bnd a fun x => if x = true then ret true else b
def mNot (a : Mo Bool) : Mo Bool := bnd a fun x => ret (!x)
variable {ta tb : TT} {ma mb : Mo Bool}
theorem tst2 {α : Type} (ha : RefT K mg ea Wx ta ma) (S0 : Sim K mg ea io Fr s σ H) {f : Bool → Mo α} {r : Except Ex α} (e : bnd ma f s = some (r, s'))
    (hex : ∀ x, r = .error x → ∀ cls d H' io', PostX K mg ea io Fr s σ H s' σ io' H' x cls d → Wx cls d σ H')
    {R : Bool → Hp → Prop} (hR : ∀ b s1 H1 io1, f b s1 = some (r, s') → PostS K mg ea io Fr s σ H s1 σ io1 H1 → R b H1) : ta σ H R := by
  rcases bnd_some e with ⟨x, e1, rfl⟩ | ⟨b, s1, e1, e2⟩
  · exact ha σ H io Fr s S0 _ _ e1 _ (fun _ q => by cases q) fun x' q cls d H' io' px => by
      cases q
      exact hex _ rfl cls d H' io' px
  · refine ha σ H io Fr s S0 _ _ e1 _ (fun x' q H1 io1 px => ?_) (fun _ q => by cases q)
    cases q
    exact hR b s1 H1 io1 e2 px
theorem ref_and (ha : RefT K mg ea Wx ta ma) (hb : RefT K mg ea Wx tb mb) : RefT K mg ea Wx (tAnd ta tb) (mAnd ma mb) := by
  intro σ H io Fr s S0 r0 s' e Q hok hex
  refine tst2 ha S0 e hex fun b s1 H1 io1 e2 px => ?_
  cases b with
  | true => exact hb σ H1 io1 Fr s1 px.1 _ _ e2 _ (fun x q H2 io2 py => hok x q H2 io2 ⟨py.1, px.2.trans py.2⟩) fun x q cls d H2 io2 py => hex x q cls d H2 io2 ⟨py.1, px.2.trans py.2.1, py.2.2⟩
  | false => cases e2; exact hok _ rfl H1 io1 px
theorem ref_or (ha : RefT K mg ea Wx ta ma) (hb : RefT K mg ea Wx tb mb) : RefT K mg ea Wx (tOr ta tb) (mOr ma mb) := by
  intro σ H io Fr s S0 r0 s' e Q hok hex
  refine tst2 ha S0 e hex fun b s1 H1 io1 e2 px => ?_
  cases b with
  | false => exact hb σ H1 io1 Fr s1 px.1 _ _ e2 _ (fun x q H2 io2 py => hok x q H2 io2 ⟨py.1, px.2.trans py.2⟩) fun x q cls d H2 io2 py => hex x q cls d H2 io2 ⟨py.1, px.2.trans py.2.1, py.2.2⟩
  | true => cases e2; exact hok _ rfl H1 io1 px
theorem ref_not (ha : RefT K mg ea Wx ta ma) : RefT K mg ea Wx (tNot ta) (mNot ma) := by
  intro σ H io Fr s S0 r0 s' e Q hok hex
  refine tst2 ha S0 e hex fun b s1 H1 io1 e2 px => ?_
  cases e2
  exact hok _ rfl H1 io1 px
end
section
variable {X : Cx} {ea : EA} {Wx : WX} {a b c : Expr} {ma mb mc : Mo RV} {pos : Pos}
theorem pee_name (i : Nat) {x : Str} {pos : Pos} (hN : X.N[i]? = some x := by rfl) (hv : Vis X.env.scope x := by first | exact Or.inl rfl | exact Or.inr (Or.inl rfl) | exact Or.inr (Or.inr rfl)) (hd : (x == ("__debug__" : Str)) = false := by decide)
    (hcd : (x == ("__classdict__" : Str)) = false := by decide) : Pee X ea Wx (.Name x pos) (mName i) := ⟨_, pe_var hN hv hd hcd, ref_name i⟩
theorem pee_int {i j pos} : Pee X ea Wx (.Constant (.int i) j pos) (mC (.int i)) := ⟨_, pe_int, ref_c fun _ _ _ => .int i⟩
theorem pee_bl {b j pos} : Pee X ea Wx (.Constant (.bool b) j pos) (mC (.bl b)) := ⟨_, pe_bl, ref_c fun _ _ _ => .bl b⟩
theorem pee_non {j pos} : Pee X ea Wx (.Constant .none j pos) (mC .non) := ⟨_, pe_non, ref_c fun _ _ _ => .non⟩
theorem pee_op {op : Operator} {f : W → W → Option OR} (ho : OpM X (binaryOp op) f) (ha : Pee X ea Wx a ma) (hb : Pee X ea Wx b mb) : Pee X ea Wx (.BinOp a op b pos) (mBin f ma mb) := by
  obtain ⟨ta, pa, ra⟩ := ha.ex
  obtain ⟨tb, pb, rb⟩ := hb.ex
  obtain ⟨r, h1, h2⟩ := ho
  exact ⟨_, pe_op h1 pa pb, ref_op (X := X) (g := binaryOp op) h2 ra rb⟩
theorem pee_un {op : UnaryOp} {f : W → Option OR} (ho : UnM X (unaryOp op) f) (ha : Pee X ea Wx a ma) : Pee X ea Wx (.UnaryOp op a pos) (mUn f ma) := by
  obtain ⟨ta, pa, ra⟩ := ha.ex
  obtain ⟨r, h1, h2⟩ := ho
  exact ⟨_, pe_un h1 pa, ref_un h2 ra⟩
theorem pee_cmp {op : CmpOp} {f : W → W → Option OR} (ho : OpM X (compareOp op) f) (ha : Pee X ea Wx a ma) (hb : Pee X ea Wx b mb) (hm : behindInMarks op b = false := by first | exact nomark _ | with_unfolding_all rfl) : Pee X ea Wx (.Compare a [op] [b] pos) (mBin f ma mb) := by
  obtain ⟨ta, pa, ra⟩ := ha.ex
  obtain ⟨tb, pb, rb⟩ := hb.ex
  obtain ⟨r, h1, h2⟩ := ho
  exact ⟨_, pe_cmpR h1 pa pb hm, ref_op (X := X) (g := compareOp op) h2 ra rb⟩
theorem pet_cmp {op : CmpOp} {f : W → W → Option OR} (ho : OpM X (compareOp op) f) (ha : Pee X ea Wx a ma) (hb : Pee X ea Wx b mb) (hm : behindInMarks op b = false := by first | exact nomark _ | with_unfolding_all rfl) : Pet X ea Wx (.Compare a [op] [b] pos) (mB (mBin f ma mb)) := by
  obtain ⟨ta, pa, ra⟩ := ha.ex
  obtain ⟨tb, pb, rb⟩ := hb.ex
  obtain ⟨r, h1, h2⟩ := ho
  exact ⟨_, pt_cmpR h1 pa pb hm, ref_test (ref_op (X := X) (g := compareOp op) h2 ra rb)⟩
theorem pet_val {e : Expr} {m : Mo RV} (h : Pee X ea Wx e m) (he : ∀ whole, isTrue e X.env whole = (do let v ← whole; standAt e.pos; holding [v] (truthy v)) := by intro _; rfl) : Pet X ea Wx e (mB m) := by
  obtain ⟨t, p, r⟩ := h.ex
  exact ⟨_, pt_val p he, ref_test r⟩
variable {tma tmb : Mo Bool} {rest : List Expr}
theorem pew_and1 (ha : Pet X ea Wx a tma) : Pew X ea Wx (.BoolOp .And [a] pos) tma := let ⟨_, p, r⟩ := ha.ex; ⟨_, pw_and1 p, r⟩
theorem pew_or1 (ha : Pet X ea Wx a tma) : Pew X ea Wx (.BoolOp .Or [a] pos) tma := let ⟨_, p, r⟩ := ha.ex; ⟨_, pw_or1 p, r⟩
theorem pew_and (ha : Pet X ea Wx a tma) (hb : Pew X ea Wx (.BoolOp .And (b :: rest) pos) tmb) : Pew X ea Wx (.BoolOp .And (a :: b :: rest) pos) (mAnd tma tmb) :=
  let ⟨_, p, r⟩ := ha.ex; let ⟨_, p', r'⟩ := hb.ex; ⟨_, pw_and p p', ref_and r r'⟩
theorem pew_or (ha : Pet X ea Wx a tma) (hb : Pew X ea Wx (.BoolOp .Or (b :: rest) pos) tmb) : Pew X ea Wx (.BoolOp .Or (a :: b :: rest) pos) (mOr tma tmb) :=
  let ⟨_, p, r⟩ := ha.ex; let ⟨_, p', r'⟩ := hb.ex; ⟨_, pw_or p p', ref_or r r'⟩
theorem Pew.pt {e : Expr} {m : Mo Bool} (h : Pew X ea Wx e m) : Pet X ea Wx e m := let ⟨_, p, r⟩ := h.ex; ⟨_, p.pt, r⟩
theorem pet_not (ha : Pet X ea Wx a tma) : Pet X ea Wx (.UnaryOp .Not a pos) (mNot tma) := let ⟨_, p, r⟩ := ha.ex; ⟨_, pt_not p, ref_not r⟩
end
end Z
set_option Elab.async false
set_option linter.all false
set_option maxRecDepth 100000
namespace Z
open PySem PySem.Spec PyProof.Rows L2
section
variable {K : PySem.W.Frag} {mg : Str → Option Value} {io : List Addr} {M : Addr → Prop} {H : Hp} {w : W} {v : V} {ws : List W}
theorem Rn.int {i : Int} (h : Rn K mg io M H (.int i) v) : v = .int i := by
  rcases h with h | ⟨c, o, a, e, _⟩
  · cases h; rfl
  · cases c <;> cases e
theorem Rn.bl {i : Bool} (h : Rn K mg io M H (.bl i) v) : v = .bl i := by
  rcases h with h | ⟨c, o, a, e, _⟩
  · cases h; rfl
  · cases c <;> cases e
theorem Rn.str {i : Str} (h : Rn K mg io M H (.str i) v) : v = .str i := by
  rcases h with h | ⟨c, o, a, e, _⟩
  · cases h; rfl
  · cases c <;> cases e
theorem Rn.byt {i : Array UInt8} (h : Rn K mg io M H (.byt i) v) : v = .byt i := by
  rcases h with h | ⟨c, o, a, e, _⟩
  · cases h; rfl
  · cases c <;> cases e
theorem Rn.non (h : Rn K mg io M H .non v) : v = .non := by
  rcases h with h | ⟨c, o, a, e, _⟩
  · cases h; rfl
  · cases c <;> cases e
theorem Rn.lst (h : Rn K mg io M H (.lst ws) v) : ∃ a vs, v = .ref a ∧ H a = some (.lst vs) ∧ Rws K mg io M H ws vs := by
  rcases h with h | ⟨c, o, a, e, rfl, ha, hc⟩
  · cases h with
    | lst h n l q => exact ⟨_, _, rfl, h, l, q⟩
  · cases c <;> cases e
    obtain ⟨vs, rfl, r⟩ := hc
    exact ⟨a, vs, rfl, ha, r⟩
theorem Rn.tup (h : Rn K mg io M H (.tup ws) v) : ∃ a vs, v = .ref a ∧ SqT K H a vs ∧ Rws K mg io M H ws vs := by
  rcases h with h | ⟨c, o, a, e, rfl, ha, hc⟩
  · cases h with
    | tup h l q => exact ⟨_, _, rfl, h.elim (fun z => SqT.of z.1) fun z => .inr z.1, l, q⟩
  · cases c <;> cases e
theorem Rn.tupRw (h : Rn K mg io M H (.tup ws) v) : Rw K mg io M H (.tup ws) v := by
  rcases h with h | ⟨c, o, a, e, rfl, ha, hc⟩
  · exact h
  · cases c <;> cases e
theorem Rn.tup1 (h : Rn K mg io M H (.tup (w :: ws)) v) : ∃ a vs, v = .ref a ∧ H a = some (.tup vs) ∧ Rws K mg io M H (w :: ws) vs := by
  rcases h with h | ⟨c, o, a, e, rfl, ha, hc⟩
  · cases h with
    | tup h l q =>
      rcases h with h | ⟨_, rfl⟩
      · exact ⟨_, _, rfl, h.1, l, q⟩
      · simp at l
  · cases c <;> cases e
theorem Rn.frl (h : Rn K mg io M H (.frl ws) v) : ∃ a vs, v = .ref a ∧ SqL K H a vs ∧ Rws K mg io M H ws vs := by
  rcases h with h | ⟨c, o, a, e, rfl, ha, hc⟩
  · cases h with
    | frl h l q => exact ⟨_, _, rfl, h.imp (fun z => z.1) id, l, q⟩
  · cases c <;> cases e
theorem Rn.dK {kvs : List (Key × W)} (h : Rn K mg io M H (.dK kvs) v) : ∃ a vs, v = .ref a ∧ Rd H a (.dK vs) ∧ Rkv K mg io M H kvs vs := by
  rcases h with h | ⟨c, o, a, e, rfl, ha, hc⟩
  · cases h with
    | dK h n l q => exact ⟨_, _, rfl, h, l, by simpa using congrArg List.length l, q⟩
  · cases c <;> cases e
    obtain ⟨vs, rfl, r⟩ := hc
    exact ⟨a, vs, rfl, .inl ha, r⟩
theorem Rn.dT {kvs : List (List Key × W)} (h : Rn K mg io M H (.dT kvs) v) : ∃ a vs, v = .ref a ∧ Rd H a (.dT vs) ∧ Rkv K mg io M H kvs vs := by
  rcases h with h | ⟨c, o, a, e, rfl, ha, hc⟩
  · cases h with
    | dT h n l q => exact ⟨_, _, rfl, h, l, by simpa using congrArg List.length l, q⟩
  · cases c <;> cases e
    obtain ⟨vs, rfl, r⟩ := hc
    exact ⟨a, vs, rfl, .inl ha, r⟩
theorem Rn.dF {kvs : List (List Key × W)} (h : Rn K mg io M H (.dF kvs) v) : ∃ a ob vs, v = .ref a ∧ H a = some (.frz ob (.dT vs)) ∧ ¬ M a ∧ Rkv K mg io M H kvs vs := by
  rcases h with h | ⟨c, o, a, e, rfl, ha, hc⟩
  · cases h with
    | dF h n l q => exact ⟨_, _, _, rfl, h, n, l, by simpa using congrArg List.length l, q⟩
  · cases c <;> cases e
theorem Rn.obj {nm : Str} {fs : List (Str × W)} (h : Rn K mg io M H (.obj nm fs) v) : ∃ a C dx vs, v = .ref a ∧ mg nm = some (.ref C) ∧ H a = some (.ins C dx vs) ∧ Rkv K mg io M H fs vs := by
  rcases h with h | ⟨c, o, a, e, rfl, ha, hc⟩
  · cases h with
    | obj m h n l q => exact ⟨_, _, _, _, rfl, m, h, l, by simpa using congrArg List.length l, q⟩
  · cases c <;> cases e
    obtain ⟨C, dx, vs, rfl, m, r⟩ := hc
    exact ⟨a, C, dx, vs, rfl, m, ha, r⟩
theorem Rn.seq {v : V} (h : Rn K mg io M H w v) (e : w = .lst ws ∨ w = .frl ws ∨ w = .tup ws) : ∃ a vs, v = .ref a ∧ (SqL K H a vs ∨ SqT K H a vs) ∧ Rws K mg io M H ws vs := by
  rcases e with rfl | rfl | rfl
  · obtain ⟨a, vs, e, q, r⟩ := h.lst; exact ⟨a, vs, e, .inl (.inl (.inl q)), r⟩
  · obtain ⟨a, vs, e, q, r⟩ := h.frl; exact ⟨a, vs, e, .inl q, r⟩
  · obtain ⟨a, vs, e, q, r⟩ := h.tup; exact ⟨a, vs, e, .inr q, r⟩
def seqOf : W → Option (List W)
  | .lst ws => some ws
  | .frl ws => some ws
  | .tup ws => some ws
  | _ => none
theorem seqOf_some (e : seqOf w = some ws) : w = .lst ws ∨ w = .frl ws ∨ w = .tup ws := by
  cases w <;> simp [seqOf] at e <;> subst e <;> simp
mutual
def toPD : W → Option PyData
  | .non => some .none
  | .bl b => some (.bool b)
  | .int i => some (.int i)
  | .str x => some (.str x)
  | .lst ws => (toPDs ws).map .list
  | .frl ws => (toPDs ws).map .list
  | .tup ws => (toPDs ws).map .tuple
  | _ => none
def toPDs : List W → Option (List PyData)
  | [] => some []
  | w :: ws => match toPD w, toPDs ws with
    | some d, some ds => some (d :: ds)
    | _, _ => none
end
theorem dpAll_of : ∀ {ws : List W} {vs : List V} {ds : List PyData}, ws.length = vs.length → (∀ (i : Nat) (w : W) (v : V), ws[i]? = some w → vs[i]? = some v → ∀ d, toPD w = some d → Dp K H v d) → toPDs ws = some ds → DpAll K H vs ds
  | [], [], ds, _, _, e => by simp only [toPDs, Option.some.injEq] at e; subst e; exact .nil
  | [], _ :: _, _, l, _, _ => by simp at l
  | _ :: _, [], _, l, _, _ => by simp at l
  | w :: ws, v :: vs, ds, l, h, e => by
    simp only [toPDs] at e
    cases e1 : toPD w with
    | none => rw [e1] at e; simp at e
    | some d =>
      cases e2 : toPDs ws with
      | none => rw [e1, e2] at e; simp at e
      | some ds' =>
        rw [e1, e2] at e
        simp only [Option.some.injEq] at e
        subst e
        exact .cons (h 0 w v rfl rfl d e1) (dpAll_of (by simpa using l) (fun i w' v' a b => h (i + 1) w' v' (by simpa using a) (by simpa using b)) e2)
theorem Rw.dp {d : PyData} (h : Rw K mg io M H w v) (e : toPD w = some d) : Dp K H v d := by
  induction h generalizing d with
  | non => simp only [toPD, Option.some.injEq] at e; subst e; exact .non
  | bl b => simp only [toPD, Option.some.injEq] at e; subst e; exact .bl b
  | int i => simp only [toPD, Option.some.injEq] at e; subst e; exact .int i
  | str x => simp only [toPD, Option.some.injEq] at e; subst e; exact .str x
  | byt b => simp [toPD] at e
  | tup h l _ ih =>
    simp only [toPD, Option.map_eq_some_iff] at e
    obtain ⟨ds, e1, rfl⟩ := e
    exact .tup (h.elim (fun z => SqT.of z.1) fun z => .inr z.1) (dpAll_of l (fun i w v a b d q => ih i w v a b q) e1)
  | frl h l _ ih =>
    simp only [toPD, Option.map_eq_some_iff] at e
    obtain ⟨ds, e1, rfl⟩ := e
    exact .lst (h.imp (fun z => z.1) id) (dpAll_of l (fun i w v a b d q => ih i w v a b q) e1)
  | lst h n l _ ih =>
    simp only [toPD, Option.map_eq_some_iff] at e
    obtain ⟨ds, e1, rfl⟩ := e
    exact .lst (SqL.of h) (dpAll_of l (fun i w v a b d q => ih i w v a b q) e1)
  | dK h n l _ ih => simp [toPD] at e
  | dT h n l _ ih => simp [toPD] at e
  | dF h n l _ ih => simp [toPD] at e
  | obj m h n l _ ih => simp [toPD] at e
  | slt m h n h2 n2 l _ ih => simp [toPD] at e
  | ref h => simp [toPD] at e
theorem Rn.dp {d : PyData} (h : Rn K mg io M H w v) (e : toPD w = some d) : Dp K H v d := by
  rcases h with h | ⟨c, o, a, rfl, rfl, ha, hc⟩
  · exact h.dp e
  · cases c with
    | lst ws =>
      obtain ⟨vs, rfl, r⟩ := hc
      simp only [Cell.toW, toPD, Option.map_eq_some_iff] at e
      obtain ⟨ds, e1, rfl⟩ := e
      exact .lst (SqL.of ha) (dpAll_of r.1 (fun i w v a b d q => (r.2 i w v a b).dp q) e1)
    | dK ws => simp [toPD] at e
    | dT ws => simp [toPD] at e
    | ins nm ws => simp [toPD] at e
end
instance (i j : Int) : Decidable (CMul i j) := by unfold CMul; infer_instance
instance (i j : Int) : Decidable (CDivW i j) := by unfold CDivW; infer_instance
instance (i j : Int) : Decidable (CPow i j) := by unfold CPow; infer_instance
def fI (g : Int → Int → Int) : W → W → Option OR
  | .int i, .int j => some (.imm (.int (g i j)))
  | _, _ => none
def fIC (C : Int → Int → Prop) [∀ i j, Decidable (C i j)] (g : Int → Int → Int) : W → W → Option OR
  | .int i, .int j => if C i j then some (.imm (.int (g i j))) else none
  | _, _ => none
def fIB (g : Int → Int → Bool) : W → W → Option OR
  | .int i, .int j => some (.imm (.bl (g i j)))
  | _, _ => none
section
variable {X : Cx}
theorem om_I {g : Int → Int → Int} {op : Value → Value → Sem Value} (h : OpR X op (rI0 fun i j => .int (g i j))) : OpM X op (fI g) := by
  refine ⟨_, h, fun io M H x y vx vy z Q rx ry e q => ?_⟩
  unfold fI at e
  split at e
  · rename_i i j
    cases e
    exact ⟨i, j, rx.int, ry.int, q _ (.int _)⟩
  · cases e
theorem om_IC {C : Int → Int → Prop} [∀ i j, Decidable (C i j)] {g : Int → Int → Int} {op : Value → Value → Sem Value} (h : OpR X op (rI C fun i j => .int (g i j))) : OpM X op (fIC C g) := by
  refine ⟨_, h, fun io M H x y vx vy z Q rx ry e q => ?_⟩
  unfold fIC at e
  split at e
  · rename_i i j
    split at e
    · rename_i hc
      cases e
      exact ⟨i, j, rx.int, ry.int, hc, q _ (.int _)⟩
    · cases e
  · cases e
theorem om_IB {g : Int → Int → Bool} {op : Value → Value → Sem Value} (h : OpR X op (rI0 fun i j => .bl (g i j))) : OpM X op (fIB g) := by
  refine ⟨_, h, fun io M H x y vx vy z Q rx ry e q => ?_⟩
  unfold fIB at e
  split at e
  · rename_i i j
    cases e
    exact ⟨i, j, rx.int, ry.int, q _ (.bl _)⟩
  · cases e
def fU (g : Int → Int) : W → Option OR
  | .int i => some (.imm (.int (g i)))
  | _ => none
theorem um_I {g : Int → Int} {op : Value → Sem Value} (h : UnR X op (rU fun i => .int (g i))) : UnM X op (fU g) := by
  refine ⟨_, h, fun io M H x vx z Q rx e q => ?_⟩
  unfold fU at e
  split at e
  · rename_i i
    cases e
    exact ⟨i, rx.int, q _ (.int _)⟩
  · cases e
def sz : Nat := 16777216
theorem sz_eq : sizeLine = sz := sizeLine_eq
def fAddS : W → W → Option OR
  | .str a, .str b => if a.length + b.length ≤ sz then some (.imm (.str (a ++ b))) else none
  | _, _ => none
theorem om_addS : OpM X (binaryOp .Add) fAddS := by
  refine ⟨_, op_add_str, fun io M H x y vx vy z Q rx ry e q => ?_⟩
  unfold fAddS at e
  split at e
  · split at e
    · rename_i h
      cases e
      exact ⟨_, _, rx.str, ry.str, by rw [sz_eq]; exact h, q _ (.str _)⟩
    · cases e
  · cases e
def fAddL : W → W → Option OR
  | .lst a, .lst b => if a.length + b.length ≤ sz then some (.newl (a ++ b)) else none
  | _, _ => none
theorem om_addL : OpM X (binaryOp .Add) fAddL := by
  refine ⟨_, op_cat, fun io M H x y vx vy z Q rx ry e q => ?_⟩
  unfold fAddL at e
  split at e
  · split at e
    · rename_i h
      cases e
      obtain ⟨a, vs, rfl, ha, r1⟩ := rx.lst
      obtain ⟨b, us, rfl, hb, r2⟩ := ry.lst
      exact ⟨a, b, vs, us, rfl, rfl, ha, hb, by rw [sz_eq, ← r1.1, ← r2.1]; exact h, fun p hp => q p _ hp (r1.append r2)⟩
    · cases e
  · cases e
def fAddT : W → W → Option OR
  | .tup [], .tup bs => if bs.length ≤ sz then some (.imm (.tup bs)) else none
  | .tup (a :: as), .tup [] => if (a :: as).length ≤ sz then some (.imm (.tup (a :: as))) else none
  | .tup (a :: as), .tup (b :: bs) => if (a :: as).length + (b :: bs).length ≤ sz then some (.newt (a :: as ++ b :: bs)) else none
  | _, _ => none
theorem om_addT : OpM X (binaryOp .Add) fAddT := by
  refine ⟨_, op_catA, fun io M H x y vx vy z Q rx ry e q => ?_⟩
  unfold fAddT at e
  split at e
  · split at e
    · rename_i h
      cases e
      have rw := ry.tupRw
      obtain ⟨a, vs, rfl, ha, r1⟩ := rx.tup
      obtain ⟨b, us, rfl, hb, r2⟩ := ry.tup
      have hv : vs = [] := by have := r1.1; simpa using this.symm
      subst hv
      refine ⟨a, b, [], us, rfl, rfl, ha, hb, by rw [sz_eq, ← r2.1]; simpa using h, fun _ => q _ rw, fun z => absurd rfl z, fun z => absurd rfl z⟩
    · cases e
  · split at e
    · rename_i h
      cases e
      have rw := rx.tupRw
      obtain ⟨a, vs, rfl, ha, r1⟩ := rx.tup
      obtain ⟨b, us, rfl, hb, r2⟩ := ry.tup
      have hu : us = [] := by have := r2.1; simpa using this.symm
      subst hu
      refine ⟨a, b, vs, [], rfl, rfl, ha, hb, by rw [sz_eq, ← r1.1]; simpa using h, fun z => ?_, fun _ _ => q _ rw, fun _ z => absurd rfl z⟩
      have := r1.1; rw [z] at this; simp at this
    · cases e
  · split at e
    · rename_i h
      cases e
      obtain ⟨a, vs, rfl, ha, r1⟩ := rx.tup
      obtain ⟨b, us, rfl, hb, r2⟩ := ry.tup
      refine ⟨a, b, vs, us, rfl, rfl, ha, hb, by rw [sz_eq, ← r1.1, ← r2.1]; exact h, fun z => ?_, fun _ z => ?_, fun _ _ p hp => q p _ hp (r1.append r2)⟩
      · have := r1.1; rw [z] at this; simp at this
      · have := r2.1; rw [z] at this; simp at this
    · cases e
  · cases e
def fAdd : W → W → Option OR := orf (fI fun i j => i + j) (orf fAddS (orf fAddL fAddT))
theorem om_add : OpM X (binaryOp .Add) fAdd := (om_I op_add).or (om_addS.or (om_addL.or om_addT))
def fSub : W → W → Option OR := fI fun i j => i - j
theorem om_sub : OpM X (binaryOp .Sub) fSub := om_I op_sub
def repW (ws : List W) (k : Nat) : List W := (List.replicate k ws).flatten
def fRepL : W → W → Option OR
  | .lst a, .int k => if -(2 ^ 63) ≤ k ∧ k < 2 ^ 63 ∧ a.length * k.toNat ≤ sz then some (.newl (repW a k.toNat)) else none
  | _, _ => none
end
end Z
set_option Elab.async false
set_option linter.all false
set_option maxRecDepth 100000
namespace Z
open PySem PySem.Spec PyProof.Rows L2
section
variable {X : Cx}
theorem Rws.rep {K : PySem.W.Frag} {mg : Str → Option Value} {io : List Addr} {M : Addr → Prop} {H : Hp} {ws : List W} {vs : List V} (h : Rws K mg io M H ws vs) : ∀ k : Nat, Rws K mg io M H (repW ws k) (List.replicate k vs).flatten
  | 0 => Rws.nil
  | k + 1 => by
    unfold repW
    rw [List.replicate_succ, List.replicate_succ, List.flatten_cons, List.flatten_cons]
    exact h.append (Rws.rep h k)
theorem om_repL : OpM X (binaryOp .Mult) fRepL := by
  refine ⟨_, op_rep, fun io M H x y vx vy z Q rx ry e q => ?_⟩
  unfold fRepL at e
  split at e
  · split at e
    · rename_i h
      cases e
      obtain ⟨a, vs, rfl, ha, r1⟩ := rx.lst
      exact ⟨a, _, vs, rfl, ry.int, ha, h.1, h.2.1, by rw [sz_eq, ← r1.1]; exact h.2.2, fun p hp => q p _ hp (r1.rep _)⟩
    · cases e
  · cases e
def fMul : W → W → Option OR := orf (fIC CMul fun i j => i * j) fRepL
theorem om_mul : OpM X (binaryOp .Mult) fMul := (om_IC op_mul).or om_repL
def fDiv : W → W → Option OR := fIC CDivW fun i j => i / j
theorem om_div : OpM X (binaryOp .FloorDiv) fDiv := om_IC op_fdivW
def fMod : W → W → Option OR := fIC (fun _ j => 0 < j) fun i j => i % j
theorem om_mod : OpM X (binaryOp .Mod) fMod := om_IC op_mod
def fPow : W → W → Option OR := fIC CPow fun i j => i ^ j.toNat
theorem om_pow : OpM X (binaryOp .Pow) fPow := om_IC op_pow
def fShl : W → W → Option OR := fIC CPow fun i j => i * 2 ^ j.toNat
theorem om_shl : OpM X (binaryOp .LShift) fShl := om_IC op_shl
def fShr : W → W → Option OR := fIC (fun _ j => 0 ≤ j) fun i j => i / 2 ^ j.toNat
theorem om_shr : OpM X (binaryOp .RShift) fShr := om_IC op_shr
def fBAnd : W → W → Option OR := fI Builtin.bitAnd
theorem om_band : OpM X (binaryOp .BitAnd) fBAnd := om_I op_and
def fNeg : W → Option OR := fU fun i => -i
theorem um_neg : UnM X (unaryOp .USub) fNeg := um_I un_neg
def fInv : W → Option OR := fU Builtin.bitNot
theorem um_inv : UnM X (unaryOp .Invert) fInv := um_I un_inv
def fLt : W → W → Option OR := fIB fun i j => decide (i < j)
theorem om_lt : OpM X (compareOp .Lt) fLt := om_IB op_lt
def fLe : W → W → Option OR := fIB fun i j => decide (i ≤ j)
theorem om_le : OpM X (compareOp .LtE) fLe := om_IB op_le
def fGt : W → W → Option OR := fIB fun i j => decide (j < i)
theorem om_gt : OpM X (compareOp .Gt) fGt := om_IB op_gt
def eqP (x y : W) : Option Bool := match toPD x, toPD y with
  | some d, some e => if SeqAt.shaped d = true ∧ SeqAt.shaped e = true then some (PyData.eqv d e) else none
  | _, _ => none
theorem eqP_some {x y : W} {b : Bool} (h : eqP x y = some b) : ∃ d e, toPD x = some d ∧ toPD y = some e ∧ SeqAt.shaped d = true ∧ SeqAt.shaped e = true ∧ b = PyData.eqv d e := by
  unfold eqP at h
  split at h
  · rename_i d e h1 h2
    split at h
    · rename_i h3
      cases h
      exact ⟨d, e, h1, h2, h3.1, h3.2, rfl⟩
    · cases h
  · cases h
def fEqD (x y : W) : Option OR := (eqP x y).map fun b => .imm (.bl b)
def fNeD (x y : W) : Option OR := (eqP x y).map fun b => .imm (.bl (!b))
theorem om_eqD (hu : X.A.units + 64 < cLine) : OpM X (compareOp .Eq) fEqD := by
  refine ⟨_, op_eqD hu, fun io M H x y vx vy z Q rx ry e q => ?_⟩
  unfold fEqD at e
  obtain ⟨b, e1, rfl⟩ := Option.map_eq_some_iff.mp e
  obtain ⟨d, e', h1, h2, h3, h4, rfl⟩ := eqP_some e1
  exact ⟨d, e', rx.dp h1, ry.dp h2, h3, h4, q _ (.bl _)⟩
theorem om_neD (hu : X.A.units + 64 < cLine) : OpM X (compareOp .NotEq) fNeD := by
  refine ⟨_, op_neD hu, fun io M H x y vx vy z Q rx ry e q => ?_⟩
  unfold fNeD at e
  obtain ⟨b, e1, rfl⟩ := Option.map_eq_some_iff.mp e
  obtain ⟨d, e', h1, h2, h3, h4, rfl⟩ := eqP_some e1
  exact ⟨d, e', rx.dp h1, ry.dp h2, h3, h4, q _ (.bl _)⟩
def fNotN : W → W → Option OR
  | .non, .non => some (.imm (.bl false))
  | .ref _, .non => none
  | _, .non => some (.imm (.bl true))
  | _, _ => none
theorem Rn.notNon {K : PySem.W.Frag} {mg : Str → Option Value} {io : List Addr} {M : Addr → Prop} {H : Hp} {w : W} {v : V} (h : Rn K mg io M H w v) (hn : w ≠ .non) : decide (v = .non) = false := by
  rcases h with h | ⟨c, o, a, e, rfl, ha, hc⟩
  · cases h <;> first | exact absurd rfl hn | rfl
  · rfl
theorem om_notN : OpM X (compareOp .IsNot) fNotN := by
  refine ⟨_, op_notN, fun io M H x y vx vy z Q rx ry e q => ?_⟩
  unfold fNotN at e
  split at e
  · cases e
    have h1 := rx.non
    subst h1
    exact ⟨ry.non, q _ (.bl _)⟩
  · cases e
  · rename_i h1 h2
    cases e
    refine ⟨ry.non, ?_⟩
    rw [rx.notNon (fun z => h1 z)]
    exact q _ (.bl _)
  · cases e
def anyP (x : W) (ws : List W) : Option Bool := match toPD x, toPDs ws with
  | some d, some ds => if SeqAt.shaped d = true ∧ SeqAt.shaped (.list ds) = true then some (ds.any fun z => PyData.eqv z d) else none
  | _, _ => none
def fInL (neg : Bool) : W → W → Option OR
  | x, .lst ws => (anyP x ws).map fun b => .imm (.bl (b != neg))
  | x, .frl ws => (anyP x ws).map fun b => .imm (.bl (b != neg))
  | _, _ => none
theorem anyP_some {x : W} {ws : List W} {b : Bool} (h : anyP x ws = some b) : ∃ d ds, toPD x = some d ∧ toPDs ws = some ds ∧ SeqAt.shaped d = true ∧ SeqAt.shaped (.list ds) = true ∧ b = ds.any fun z => PyData.eqv z d := by
  unfold anyP at h
  split at h
  · rename_i d e h1 h2
    split at h
    · rename_i h3
      cases h
      exact ⟨d, e, h1, h2, h3.1, h3.2, rfl⟩
    · cases h
  · cases h
theorem om_inL (hu : X.A.units + 65 < cLine) : OpM X (compareOp .In) (fInL false) := by
  refine ⟨_, op_inD hu, fun io M H x y vx vy z Q rx ry e q => ?_⟩
  unfold fInL at e
  split at e
  · obtain ⟨b, e1, rfl⟩ := Option.map_eq_some_iff.mp e
    obtain ⟨d, ds, h1, h2, h3, h4, rfl⟩ := anyP_some e1
    refine ⟨d, ds, rx.dp h1, ry.dp (by simp [toPD, h2]), h3, h4, ?_⟩
    simpa using q _ (.bl _)
  · obtain ⟨b, e1, rfl⟩ := Option.map_eq_some_iff.mp e
    obtain ⟨d, ds, h1, h2, h3, h4, rfl⟩ := anyP_some e1
    refine ⟨d, ds, rx.dp h1, ry.dp (by simp [toPD, h2]), h3, h4, ?_⟩
    simpa using q _ (.bl _)
  · cases e
theorem om_notInL (hu : X.A.units + 65 < cLine) : OpM X (compareOp .NotIn) (fInL true) := by
  refine ⟨_, op_notInD hu, fun io M H x y vx vy z Q rx ry e q => ?_⟩
  unfold fInL at e
  split at e
  · obtain ⟨b, e1, rfl⟩ := Option.map_eq_some_iff.mp e
    obtain ⟨d, ds, h1, h2, h3, h4, rfl⟩ := anyP_some e1
    refine ⟨d, ds, rx.dp h1, ry.dp (by simp [toPD, h2]), h3, h4, ?_⟩
    have := q _ (.bl _)
    rwa [Bool.bne_true] at this
  · obtain ⟨b, e1, rfl⟩ := Option.map_eq_some_iff.mp e
    obtain ⟨d, ds, h1, h2, h3, h4, rfl⟩ := anyP_some e1
    refine ⟨d, ds, rx.dp h1, ry.dp (by simp [toPD, h2]), h3, h4, ?_⟩
    have := q _ (.bl _)
    rwa [Bool.bne_true] at this
  · cases e
def toV : W → Option V
  | .non => some .non
  | .bl b => some (.bl b)
  | .int i => some (.int i)
  | .str x => some (.str x)
  | _ => none
def toVs : List W → Option (List V)
  | [] => some []
  | w :: ws => match toV w, toVs ws with
    | some v, some vs => some (v :: vs)
    | _, _ => none
theorem Rw.toV {K : PySem.W.Frag} {mg : Str → Option Value} {io : List Addr} {M : Addr → Prop} {H : Hp} {w : W} {v u : V} (h : Rw K mg io M H w v) (e : Z.toV w = some u) : v = u ∧ flatV u = true := by
  cases h <;> simp [Z.toV] at e <;> subst e <;> exact ⟨rfl, rfl⟩
theorem Rn.toV {K : PySem.W.Frag} {mg : Str → Option Value} {io : List Addr} {M : Addr → Prop} {H : Hp} {w : W} {v u : V} (h : Rn K mg io M H w v) (e : Z.toV w = some u) : v = u ∧ flatV u = true := by
  rcases h with h | ⟨c, o, a, rfl, rfl, ha, hc⟩
  · exact h.toV e
  · cases c <;> simp [Z.toV] at e
theorem Rws.toVs {K : PySem.W.Frag} {mg : Str → Option Value} {io : List Addr} {M : Addr → Prop} {H : Hp} : ∀ {ws : List W} {vs us : List V}, Rws K mg io M H ws vs → Z.toVs ws = some us → vs = us ∧ us.all flatV = true
  | [], vs, us, h, e => by
    rw [h.nil_inv]
    simp only [Z.toVs, Option.some.injEq] at e
    subst e
    exact ⟨rfl, rfl⟩
  | w :: ws, vs, us, h, e => by
    obtain ⟨v, r, rfl, h1, h2⟩ := h.cons_inv
    simp only [Z.toVs] at e
    cases e1 : Z.toV w with
    | none => rw [e1] at e; simp at e
    | some u =>
      cases e2 : Z.toVs ws with
      | none => rw [e1, e2] at e; simp at e
      | some us' =>
        rw [e1, e2] at e
        simp only [Option.some.injEq] at e
        subst e
        obtain ⟨rfl, f1⟩ := h1.toV e1
        obtain ⟨rfl, f2⟩ := Rws.toVs h2 e2
        exact ⟨rfl, by simp [f1, f2]⟩
def fInT (neg : Bool) : W → W → Option OR
  | x, .tup ws => match Z.toV x, Z.toVs ws with
    | some v, some vs => some (.imm (.bl (inV v vs != neg)))
    | _, _ => none
  | _, _ => none
theorem om_inT : OpM X (compareOp .In) (fInT false) := by
  refine ⟨_, op_in_seq, fun io M H x y vx vy z Q rx ry e q => ?_⟩
  unfold fInT at e
  split at e
  · split at e
    · rename_i h1 h2
      cases e
      obtain ⟨a, vs, rfl, ha, r⟩ := ry.tup
      obtain ⟨rfl, f1⟩ := rx.toV h1
      obtain ⟨rfl, f2⟩ := r.toVs h2
      refine ⟨a, _, rfl, .inr ha, f1, f2, ?_⟩
      simpa using q _ (.bl _)
    · cases e
  · cases e
theorem om_notInT : OpM X (compareOp .NotIn) (fInT true) := by
  refine ⟨_, op_notIn_seq, fun io M H x y vx vy z Q rx ry e q => ?_⟩
  unfold fInT at e
  split at e
  · split at e
    · rename_i h1 h2
      cases e
      obtain ⟨a, vs, rfl, ha, r⟩ := ry.tup
      obtain ⟨rfl, f1⟩ := rx.toV h1
      obtain ⟨rfl, f2⟩ := r.toVs h2
      refine ⟨a, _, rfl, .inr ha, f1, f2, ?_⟩
      have := q _ (.bl _)
      rwa [Bool.bne_true] at this
    · cases e
  · cases e
def keyOf : W → Option Key
  | .int i => some (.inl i)
  | .str x => some (.inr x)
  | _ => none
def keysOf : List W → Option (List Key)
  | [] => some []
  | w :: ws => match keyOf w, keysOf ws with
    | some v, some vs => some (v :: vs)
    | _, _ => none
theorem Rn.key {K : PySem.W.Frag} {mg : Str → Option Value} {io : List Addr} {M : Addr → Prop} {H : Hp} {w : W} {v : V} {k : Key} (h : Rn K mg io M H w v) (e : keyOf w = some k) : v = kV k := by
  rcases h with h | ⟨c, o, a, rfl, rfl, ha, hc⟩
  · cases h <;> simp [keyOf] at e <;> subst e <;> rfl
  · cases c <;> simp [keyOf] at e
theorem Rws.keys {K : PySem.W.Frag} {mg : Str → Option Value} {io : List Addr} {M : Addr → Prop} {H : Hp} : ∀ {ws : List W} {vs : List V} {ks : List Key}, Rws K mg io M H ws vs → keysOf ws = some ks → vs = ks.map kV
  | [], vs, ks, h, e => by
    rw [h.nil_inv]
    simp only [keysOf, Option.some.injEq] at e
    subst e
    rfl
  | w :: ws, vs, ks, h, e => by
    obtain ⟨v, r, rfl, h1, h2⟩ := h.cons_inv
    simp only [keysOf] at e
    cases e1 : keyOf w with
    | none => rw [e1] at e; simp at e
    | some u =>
      cases e2 : keysOf ws with
      | none => rw [e1, e2] at e; simp at e
      | some us' =>
        rw [e1, e2] at e
        simp only [Option.some.injEq] at e
        subst e
        rw [(Rn.key (.inl h1) e1), Rws.keys h2 e2]
        rfl
def tkOf : W → Option (List Key)
  | .tup (w :: ws) => keysOf (w :: ws)
  | _ => none
def valW {κ : Type} [DecidableEq κ] (kvs : List (κ × W)) (k : κ) : Option W := (kvs.find? fun kv => decide (kv.1 = k)).map (·.2)
theorem Rkv.valW {κ : Type} [DecidableEq κ] {K : PySem.W.Frag} {mg : Str → Option Value} {io : List Addr} {M : Addr → Prop} {H : Hp} {k : κ} : ∀ {ws : List (κ × W)} {vs : List (κ × V)}, Rkv K mg io M H ws vs →
    (Z.valW ws k).isSome = (valV vs k).isSome ∧ ∀ w, Z.valW ws k = some w → ∃ v, valV vs k = some v ∧ Rw K mg io M H w v
  | [], vs, h => by rw [h.nil_inv]; exact ⟨rfl, fun w e => by simp [Z.valW] at e⟩
  | (k', w') :: ws, vs, h => by
    obtain ⟨v, r, rfl, h1, h2⟩ := h.cons_inv
    by_cases q : k' = k
    · refine ⟨?_, fun w e => ?_⟩
      · rw [valV_pos (p := (k', v)) q]; simp [Z.valW, q]
      · simp [Z.valW, q] at e
        subst e
        exact ⟨v, valV_pos (p := (k', v)) q, h1⟩
    · obtain ⟨i1, i2⟩ := Rkv.valW h2
      have e0 : Z.valW ((k', w') :: ws) k = Z.valW ws k := by simp [Z.valW, q]
      rw [e0, valV_neg (p := (k', v)) q]
      exact ⟨i1, i2⟩
def dLook : W → W → Option (Option W)
  | .dK kvs, k => (keyOf k).map fun k => valW kvs k
  | .dT kvs, k => (tkOf k).map fun k => valW kvs k
  | .dF kvs, k => (tkOf k).map fun k => valW kvs k
  | _, _ => none
theorem tk_inv {k : W} {ks : List Key} (h : tkOf k = some ks) : ∃ w ws, k = .tup (w :: ws) ∧ keysOf (w :: ws) = some ks := by
  unfold tkOf at h
  split at h
  · exact ⟨_, _, rfl, h⟩
  · cases h
theorem dLook_ok {K : PySem.W.Frag} {mg : Str → Option Value} {io : List Addr} {M : Addr → Prop} {H : Hp} {d k : W} {vd vk : V} {r : Option W} (hd : Rn K mg io M H d vd) (hk : Rn K mg io M H k vk) (e : dLook d k = some r) :
    ∃ a o, vd = .ref a ∧ DGet H a vk o ∧ o.isSome = r.isSome ∧ ∀ w, r = some w → ∃ v, o = some v ∧ Rw K mg io M H w v := by
  unfold dLook at e
  split at e
  · obtain ⟨k', e1, rfl⟩ := Option.map_eq_some_iff.mp e
    obtain ⟨a, vs, rfl, ha, rr⟩ := hd.dK
    obtain ⟨i1, i2⟩ := rr.valW (k := k')
    exact ⟨a, valV vs k', rfl, .inl ⟨vs, k', ha, hk.key e1, rfl⟩, i1.symm, i2⟩
  · obtain ⟨k', e1, rfl⟩ := Option.map_eq_some_iff.mp e
    obtain ⟨a, vs, rfl, ha, rr⟩ := hd.dT
    obtain ⟨i1, i2⟩ := rr.valW (k := k')
    obtain ⟨w, ws, rfl, e2⟩ := tk_inv e1
    obtain ⟨b, us, rfl, hb, r2⟩ := hk.tup1
    exact ⟨a, valV vs k', rfl, .inr ⟨vs, k', b, ha, rfl, by rw [hb, r2.keys e2], rfl⟩, i1.symm, i2⟩
  · obtain ⟨k', e1, rfl⟩ := Option.map_eq_some_iff.mp e
    obtain ⟨a, ob, vs, rfl, ha, _, rr⟩ := hd.dF
    obtain ⟨i1, i2⟩ := rr.valW (k := k')
    obtain ⟨w, ws, rfl, e2⟩ := tk_inv e1
    obtain ⟨b, us, rfl, hb, r2⟩ := hk.tup1
    exact ⟨a, valV vs k', rfl, .inr ⟨vs, k', b, .inr ⟨ob, ha⟩, rfl, by rw [hb, r2.keys e2], rfl⟩, i1.symm, i2⟩
  · cases e
def fInD (neg : Bool) : W → W → Option OR := fun k d => (dLook d k).map fun r => .imm (.bl (r.isSome != neg))
theorem om_inDict (hu : X.A.units + 1 < cLine) : OpM X (compareOp .In) (fInD false) := by
  refine ⟨fun y x H Q => ∃ a o, x = .ref a ∧ DGet H a y o ∧ Q (.bl o.isSome) H, ?_, fun io M H x y vx vy z Q rx ry e q => ?_⟩
  · intro pins s σ H x y v u Q I rx ry h
    obtain ⟨a, o, rfl, g, q⟩ := h
    cases ry
    exact d_in hu I g rx fun s' I' => ⟨.bl o.isSome, H, I', rfl, q⟩
  · obtain ⟨r, e1, rfl⟩ := Option.map_eq_some_iff.mp e
    obtain ⟨a, o, rfl, g, h1, _⟩ := dLook_ok ry rx e1
    refine ⟨a, o, rfl, g, ?_⟩
    rw [h1]
    simpa using q _ (.bl _)
theorem om_notInDict (hu : X.A.units + 1 < cLine) : OpM X (compareOp .NotIn) (fInD true) := by
  refine ⟨fun y x H Q => ∃ a o, x = .ref a ∧ DGet H a y o ∧ Q (.bl (!o.isSome)) H, ?_, fun io M H x y vx vy z Q rx ry e q => ?_⟩
  · intro pins s σ H x y v u Q I rx ry h
    obtain ⟨a, o, rfl, g, q⟩ := h
    cases ry
    exact d_notIn hu I g rx fun s' I' => ⟨.bl (!o.isSome), H, I', rfl, q⟩
  · obtain ⟨r, e1, rfl⟩ := Option.map_eq_some_iff.mp e
    obtain ⟨a, o, rfl, g, h1, _⟩ := dLook_ok ry rx e1
    refine ⟨a, o, rfl, g, ?_⟩
    rw [h1]
    have := q _ (.bl _)
    rwa [Bool.bne_true] at this
def fIn (neg : Bool) : W → W → Option OR := orf (fInL neg) (orf (fInT neg) (fInD neg))
theorem om_in (hu : X.A.units + 65 < cLine) : OpM X (compareOp .In) (fIn false) := (om_inL hu).or (om_inT.or (om_inDict (by omega)))
theorem om_notIn (hu : X.A.units + 65 < cLine) : OpM X (compareOp .NotIn) (fIn true) := (om_notInL hu).or (om_notInT.or (om_notInDict (by omega)))
def IxM (X : Cx) (f : W → W → Option OR) : Prop :=
  ∃ r : R2, IxR X r ∧ ∀ io M H x y vx vy z Q, Rn X.K X.mg io M H x vx → Rn X.K X.mg io M H y vy → f x y = some z → OQ X.K X.mg io M H z Q → r vx vy H Q
theorem IxM.or {f f' : W → W → Option OR} (h : IxM X f) (h' : IxM X f') : IxM X (orf f f') := by
  obtain ⟨r, a, b⟩ := h
  obtain ⟨r', a', b'⟩ := h'
  refine ⟨_, a.or a', fun io M H x y vx vy z Q rx ry e q => ?_⟩
  unfold orf at e
  cases k : f x y with
  | some z' =>
    rw [k] at e
    cases e
    exact .inl (b io M H x y vx vy z Q rx ry k q)
  | none =>
    rw [k] at e
    exact .inr (b' io M H x y vx vy z Q rx ry e q)
theorem Rws.atI {K : PySem.W.Frag} {mg : Str → Option Value} {io : List Addr} {M : Addr → Prop} {H : Hp} {ws : List W} {vs : List V} {i : Int} {w : W} (r : Rws K mg io M H ws vs) (e : L2.atI ws i = some w) : ∃ v, L2.atI vs i = some v ∧ Rw K mg io M H w v := by
  unfold L2.atI at e ⊢
  obtain ⟨j, e1, e2⟩ := Option.bind_eq_some_iff.mp e
  obtain ⟨v, h1, h2⟩ := r.get e2
  exact ⟨v, by rw [← r.1, e1]; exact h1, h2⟩
def fIxS : W → W → Option OR
  | .lst ws, .int i => (atI ws i).map .imm
  | .frl ws, .int i => (atI ws i).map .imm
  | .tup ws, .int i => (atI ws i).map .imm
  | .str z, .int i => if z.length ≤ sz then (atI z.cps.toList i).map fun c => .imm (.str ⟨#[c]⟩) else none
  | _, _ => none
theorem xm_seq : IxM X fIxS := by
  refine ⟨_, ix_seq, fun io M H x y vx vy z Q rx ry e q => ?_⟩
  unfold fIxS at e
  split at e
  · obtain ⟨w, e1, rfl⟩ := Option.map_eq_some_iff.mp e
    obtain ⟨a, vs, rfl, ha, r⟩ := rx.lst
    obtain ⟨v, h1, h2⟩ := r.atI e1
    exact .inl ⟨a, vs, _, v, rfl, ry.int, SqL.of ha, h1, q v h2⟩
  · obtain ⟨w, e1, rfl⟩ := Option.map_eq_some_iff.mp e
    obtain ⟨a, vs, rfl, ha, r⟩ := rx.frl
    obtain ⟨v, h1, h2⟩ := r.atI e1
    exact .inl ⟨a, vs, _, v, rfl, ry.int, ha, h1, q v h2⟩
  · obtain ⟨w, e1, rfl⟩ := Option.map_eq_some_iff.mp e
    obtain ⟨a, vs, rfl, ha, r⟩ := rx.tup
    obtain ⟨v, h1, h2⟩ := r.atI e1
    exact .inr (.inl ⟨a, vs, _, v, rfl, ry.int, ha, h1, q v h2⟩)
  · split at e
    · rename_i hz
      obtain ⟨w, e1, rfl⟩ := Option.map_eq_some_iff.mp e
      exact .inr (.inr ⟨_, _, w, rx.str, ry.int, by rw [sz_eq]; exact hz, e1, q _ (.str _)⟩)
    · cases e
  · cases e
def fIxD : W → W → Option OR := fun d k => (dLook d k).bind fun r => r.map .imm
theorem xm_dict (hu : X.A.units + 1 < cLine) : IxM X fIxD := by
  refine ⟨fun x y H Q => ∃ a v, x = .ref a ∧ DGet H a y (some v) ∧ Q v H, ?_, fun io M H x y vx vy z Q rx ry e q => ?_⟩
  · intro value slice pins s σ H x y v u Q I rx ry h hs
    obtain ⟨a, z, rfl, g, q⟩ := h
    cases rx
    exact tail_any (dict_typeIs I g) PySem.F.slot_dict_getitem.lookup (d_getItem hu I g ry fun w' s' I' r => ⟨z, H, I', r, q⟩) hs
  · obtain ⟨r, e1, e2⟩ := Option.bind_eq_some_iff.mp e
    obtain ⟨w, rfl, rfl⟩ := Option.map_eq_some_iff.mp e2
    obtain ⟨a, o, rfl, g, _, h2⟩ := dLook_ok rx ry e1
    obtain ⟨v, rfl, hv⟩ := h2 w rfl
    exact ⟨a, v, rfl, g, q v hv⟩
def fIx : W → W → Option OR := orf fIxS fIxD
theorem xm_ix (hu : X.A.units + 1 < cLine) : IxM X fIx := xm_seq.or (xm_dict hu)
end
section
variable {X : Cx} {ea : EA} {Wx : WX} {a b c : Expr} {ma mb mc : Mo RV} {pos : Pos}
theorem pee_ix {f : W → W → Option OR} (ho : IxM X f) (ha : Pee X ea Wx a ma) (hb : Pee X ea Wx b mb) (hs : PlainIx b := by exact fun _ _ => rfl) : Pee X ea Wx (.Subscript a b pos) (mBin f ma mb) := by
  obtain ⟨ta, pa, ra⟩ := ha.ex
  obtain ⟨tb, pb, rb⟩ := hb.ex
  obtain ⟨r, h1, h2⟩ := ho
  exact ⟨_, pe_ix h1 pa pb hs, ref_op (X := X) (g := fun _ _ => pure .none) h2 ra rb⟩
end
end Z
set_option Elab.async false
set_option linter.all false
set_option maxRecDepth 100000
namespace Z
open PySem PySem.Spec PyProof.Rows L2
section
variable {K : PySem.W.Frag} {mg : Str → Option Value} {ea : EA} {io io' : List Addr} {Fr Fr' : Addr → Prop} {s s' s2 : S} {σ σ' : L2.St} {H H' : Hp} {w : W} {v : V} {c : Cell} {o : HO} {a p : Addr}
def mNil : Mo (List RV) := ret []
def mCons (m : Mo RV) (ms : Mo (List RV)) : Mo (List RV) := bnd m fun x => bnd ms fun xs => ret (settle x :: xs)
def freezeAll : List RV → Mo (List W)
  | [] => ret []
  | x :: xs => bnd (freeze x) fun w => bnd (freezeAll xs) fun ws => ret (w :: ws)
def lookAll : List RV → Mo (List W)
  | [] => ret []
  | x :: xs => bnd (look x) fun w => bnd (lookAll xs) fun ws => ret (w :: ws)
variable {Wx : WX}
theorem ref_nil : RefA K mg ea Wx tNil mNil := by
  intro σ H io Fr s S0 r0 s' e Q hok hex
  cases e
  exact hok _ rfl [] H io ⟨S0, .refl⟩ .nil
theorem ref_cons {te : TE} {m : Mo RV} {ta : TA} {ms : Mo (List RV)} (h : RefE K mg ea Wx te m) (t : RefA K mg ea Wx ta ms) : RefA K mg ea Wx (tCons te ta) (mCons m ms) := by
  intro σ H io Fr s S0 r0 s' e Q hok hex
  rcases bnd_some e with ⟨x, e1, rfl⟩ | ⟨x, s1, e1, e2⟩
  · exact h σ H io Fr s S0 _ _ e1 _ (fun _ q => by cases q) fun x' q cls d H' io' px => by
      cases q
      exact hex _ rfl cls d H' io' px
  · refine h σ H io Fr s S0 _ _ e1 _ (fun x' q vx H1 io1 px => ?_) (fun _ q => by cases q)
    cases q
    obtain ⟨S1, T1, R1⟩ := px.settled
    rcases bnd_some e2 with ⟨y, e3, rfl⟩ | ⟨ys, s2, e3, e4⟩
    · exact t σ H1 io1 Fr s1 S1 _ _ e3 _ (fun _ q => by cases q) fun x' q cls d H' io' py => by
        cases q
        exact hex _ rfl cls d H' io' ⟨py.1, T1.trans py.2.1, py.2.2⟩
    · refine t σ H1 io1 Fr s1 S1 _ _ e3 _ (fun y' q vy H2 io2 py R2 => ?_) (fun _ q => by cases q)
      cases q
      cases e4
      exact hok _ rfl _ H2 io2 ⟨py.1, T1.trans py.2⟩ (.cons (R1.pers py.2.p) R2)
theorem RvR.less {x : RV} {M M' : Addr → Prop} (h : ∀ b, M' b → M b) (r : RvR K mg io M σ H x v) : RvR K mg io M' σ H x v := r.pers (.less h)
theorem paired_mono {α β : Type} {F G : α → β → Prop} (h : ∀ a b, F a b → G a b) {xs : List α} {ys : List β} (p : Paired F xs ys) : Paired G xs ys := Paired.mapP p h
theorem freezeAll_ok : ∀ {xs : List RV} {vs : List V} {s s' : S} {r : Except Ex (List W)}, Sim K mg ea io Fr s σ H → Paired (RvR K mg io (Ms io Fr s σ) σ H) xs vs → freezeAll xs s = some (r, s') →
    s'.G = s.G ∧ (∀ b, Ms io Fr s' σ b → Ms io Fr s σ b) ∧ Sim K mg ea io Fr s' σ H ∧ ∃ ws, r = .ok ws ∧ Rws K mg io (Ms io Fr s' σ) H ws vs
  | [], vs, s, s', r, S0, p, e => by
    cases p
    cases e
    exact ⟨rfl, fun _ z => z, S0, [], rfl, Rws.nil⟩
  | x :: xs, vs, s, s', r, S0, p, e => by
    cases p with
    | cons p1 p2 =>
      rename_i v vs
      rcases bnd_some e with ⟨z, e1, rfl⟩ | ⟨w, s1, e1, e2⟩
      · obtain ⟨_, _, _, _, q, _⟩ := freeze_ok S0 p1 e1
        cases q
      · obtain ⟨g1, m1, S1, w', q, r1⟩ := freeze_ok S0 p1 e1
        cases q
        rcases bnd_some e2 with ⟨z, e3, rfl⟩ | ⟨ws, s2, e3, e4⟩
        · obtain ⟨_, _, _, _, q, _⟩ := freezeAll_ok S1 (paired_mono (fun a b z => z.less m1) p2) e3
          cases q
        · obtain ⟨g2, m2, S2, ws', q, r2⟩ := freezeAll_ok S1 (paired_mono (fun a b z => z.less m1) p2) e3
          cases q
          cases e4
          exact ⟨g2.trans g1, fun b z => m1 b (m2 b z), S2, _, rfl, Rws.cons (r1.pers (.less m2)) r2⟩
theorem lookAll_ok : ∀ {xs : List RV} {vs : List V} {s s' : S} {r : Except Ex (List W)}, Sim K mg ea io Fr s σ H → Paired (RvR K mg io (Ms io Fr s σ) σ H) xs vs → lookAll xs s = some (r, s') →
    s' = s ∧ ∃ ws, r = .ok ws ∧ Paired (Rn K mg io (Ms io Fr s σ) H) ws vs
  | [], vs, s, s', r, S0, p, e => by
    cases p
    cases e
    exact ⟨rfl, [], rfl, .nil⟩
  | x :: xs, vs, s, s', r, S0, p, e => by
    cases p with
    | cons p1 p2 =>
      rename_i v vs
      rcases bnd_some e with ⟨z, e1, rfl⟩ | ⟨w, s1, e1, e2⟩
      · obtain ⟨_, _, q, _⟩ := look_ok S0 p1 e1
        cases q
      · obtain ⟨rfl, w', q, r1⟩ := look_ok S0 p1 e1
        cases q
        rcases bnd_some e2 with ⟨z, e3, rfl⟩ | ⟨ws, s2, e3, e4⟩
        · obtain ⟨_, _, q, _⟩ := lookAll_ok S0 p2 e3
          cases q
        · obtain ⟨rfl, ws', q, r2⟩ := lookAll_ok S0 p2 e3
          cases q
          cases e4
          exact ⟨rfl, _, rfl, .cons r1 r2⟩
theorem arg2 {α : Type} {ta : TA} {ms : Mo (List RV)} (ha : RefA K mg ea Wx ta ms) (S0 : Sim K mg ea io Fr s σ H) {f : List RV → Mo α} {r : Except Ex α} (e : bnd ms f s = some (r, s'))
    (hex : ∀ x, r = .error x → ∀ cls d H' io', PostX K mg ea io Fr s σ H s' σ io' H' x cls d → Wx cls d σ H')
    {R : List V → Hp → Prop} (hR : ∀ xs vs s1 H1 io1, f xs s1 = some (r, s') → PostS K mg ea io Fr s σ H s1 σ io1 H1 → Paired (RvR K mg io1 (Ms io1 Fr s1 σ) σ H1) xs vs → R vs H1) : ta σ H R := by
  rcases bnd_some e with ⟨x, e1, rfl⟩ | ⟨b, s1, e1, e2⟩
  · exact ha σ H io Fr s S0 _ _ e1 _ (fun _ q => by cases q) fun x' q cls d H' io' px => by
      cases q
      exact hex _ rfl cls d H' io' px
  · refine ha σ H io Fr s S0 _ _ e1 _ (fun x' q vs H1 io1 px R1 => ?_) (fun _ q => by cases q)
    cases q
    exact hR _ vs s1 H1 io1 e2 px R1
theorem one2 {α : Type} {ta : TE} {m : Mo RV} (ha : RefE K mg ea Wx ta m) (S0 : Sim K mg ea io Fr s σ H) {f : RV → Mo α} {r : Except Ex α} (e : bnd m f s = some (r, s'))
    (hex : ∀ x, r = .error x → ∀ cls d H' io', PostX K mg ea io Fr s σ H s' σ io' H' x cls d → Wx cls d σ H')
    {R : V → Hp → Prop} (hR : ∀ x v s1 H1 io1, f x s1 = some (r, s') → PostE K mg ea io Fr s σ H s1 io1 H1 x v → R v H1) : ta σ H R := by
  rcases bnd_some e with ⟨x, e1, rfl⟩ | ⟨b, s1, e1, e2⟩
  · exact ha σ H io Fr s S0 _ _ e1 _ (fun _ q => by cases q) fun x' q cls d H' io' px => by
      cases q
      exact hex _ rfl cls d H' io' px
  · refine ha σ H io Fr s S0 _ _ e1 _ (fun x' q v H1 io1 px => ?_) (fun _ q => by cases q)
    cases q
    exact hR _ v s1 H1 io1 e2 px
theorem Stp.lessM {M M' M2 : Addr → Prop} (x : Stp io M Fr H io' M' H') (h : ∀ b, M2 b → M' b) : Stp io M Fr H io' M2 H' := x.less h
def mDisp (k : List W → RV) (ms : Mo (List RV)) : Mo RV := bnd ms fun xs => bnd (freezeAll xs) fun ws => if ws.length ≤ sz then ret (k ws) else stk
def mTup : Mo (List RV) → Mo RV := mDisp fun ws => .val (.tup ws)
def mLst : Mo (List RV) → Mo RV := mDisp fun ws => .own (.lst ws)
theorem ref_tup {ta : TA} {ms : Mo (List RV)} (ha : RefA K mg ea Wx ta ms) : RefE K mg ea Wx (tTup ta) (mTup ms) := by
  intro σ H io Fr s S0 r0 s' e Q hok hex
  refine arg2 ha S0 e hex fun xs vs s1 H1 io1 e2 px R1 => ?_
  rcases bnd_some e2 with ⟨x, e3, rfl⟩ | ⟨ws, s2, e3, e4⟩
  · obtain ⟨_, _, _, _, q, _⟩ := freezeAll_ok px.1 R1 e3
    cases q
  · obtain ⟨g, m, S2, ws', q, r2⟩ := freezeAll_ok px.1 R1 e3
    cases q
    split at e4
    · rename_i hz
      cases e4
      have := OQ.post (z := .newt ws) S2 (px.2.lessM m) fun v H3 io3 q => hok _ rfl v H3 io3 q
      exact ⟨by rw [sz_eq, ← r2.1]; exact hz, fun p hp => this p vs hp r2⟩
    · cases e4
theorem ref_lst {ta : TA} {ms : Mo (List RV)} (ha : RefA K mg ea Wx ta ms) : RefE K mg ea Wx (tLst ta) (mLst ms) := by
  intro σ H io Fr s S0 r0 s' e Q hok hex
  refine arg2 ha S0 e hex fun xs vs s1 H1 io1 e2 px R1 => ?_
  rcases bnd_some e2 with ⟨x, e3, rfl⟩ | ⟨ws, s2, e3, e4⟩
  · obtain ⟨_, _, _, _, q, _⟩ := freezeAll_ok px.1 R1 e3
    cases q
  · obtain ⟨g, m, S2, ws', q, r2⟩ := freezeAll_ok px.1 R1 e3
    cases q
    split at e4
    · rename_i hz
      cases e4
      have := OQ.post (z := .newl ws) S2 (px.2.lessM m) fun v H3 io3 q => hok _ rfl v H3 io3 q
      exact ⟨by rw [sz_eq, ← r2.1]; exact hz, fun p hp => this p vs hp r2⟩
    · cases e4
def CallM (X : Cx) (g : Value) (f : List W → Option OR) : Prop :=
  ∃ r : List V → Hp → VK → Prop, CallR X g r ∧ ∀ io M H ws vs z Q, Paired (Rn X.K X.mg io M H) ws vs → f ws = some z → OQ X.K X.mg io M H z Q → r vs H Q
def mCB (f : List W → Option OR) (ms : Mo (List RV)) : Mo RV := bnd ms fun xs => bnd (lookAll xs) fun ws => liftO (f ws)
theorem ref_cb {ta : TA} {ms : Mo (List RV)} {f : List W → Option OR} {r : List V → Hp → VK → Prop} (hr : ∀ io M H ws vs z Q, Paired (Rn K mg io M H) ws vs → f ws = some z → OQ K mg io M H z Q → r vs H Q)
    (ha : RefA K mg ea Wx ta ms) : RefE K mg ea Wx (tCB r ta) (mCB f ms) := by
  intro σ H io Fr s S0 r0 s' e Q hok hex
  refine arg2 ha S0 e hex fun xs vs s1 H1 io1 e2 px R1 => ?_
  rcases bnd_some e2 with ⟨x, e3, rfl⟩ | ⟨ws, s2, e3, e4⟩
  · obtain ⟨_, _, q, _⟩ := lookAll_ok px.1 R1 e3
    cases q
  · obtain ⟨rfl, ws', q, r2⟩ := lookAll_ok px.1 R1 e3
    cases q
    obtain ⟨rfl, u, hu, rfl⟩ := liftO_some e4
    exact hr _ _ _ _ _ _ _ r2 hu (OQ.post px.1 px.2 fun v H3 io3 q => hok _ rfl v H3 io3 q)
def or1 {α γ : Type} (f g : α → Option γ) : α → Option γ := fun x => match f x with
  | some z => some z
  | none => g x
theorem CallR.or {X : Cx} {f : Value} {r r' : List V → Hp → VK → Prop} (h : CallR X f r) (h' : CallR X f r') : CallR X f (fun xs H Q => r xs H Q ∨ r' xs H Q) := by
  intro pins s σ H xs us Q I rr q
  rcases q with q | q
  · exact h pins s σ H xs us Q I rr q
  · exact h' pins s σ H xs us Q I rr q
theorem CallM.or {X : Cx} {g : Value} {f f' : List W → Option OR} (h : CallM X g f) (h' : CallM X g f') : CallM X g (or1 f f') := by
  obtain ⟨r, a, b⟩ := h
  obtain ⟨r', a', b'⟩ := h'
  refine ⟨_, CallR.or a a', fun io M H ws vs z Q rx e q => ?_⟩
  unfold or1 at e
  cases k : f ws with
  | some z' =>
    rw [k] at e
    cases e
    exact .inl (b io M H ws vs z Q rx k q)
  | none =>
    rw [k] at e
    exact .inr (b' io M H ws vs z Q rx e q)
theorem p1 {α β : Type} {F : α → β → Prop} {x : α} {ys : List β} (h : Paired F [x] ys) : ∃ y, ys = [y] ∧ F x y := by
  cases h with
  | cons h t => cases t; exact ⟨_, rfl, h⟩
theorem p2 {α β : Type} {F : α → β → Prop} {x x' : α} {ys : List β} (h : Paired F [x, x'] ys) : ∃ y y', ys = [y, y'] ∧ F x y ∧ F x' y' := by
  cases h with
  | cons h t =>
    cases t with
    | cons h' t => cases t; exact ⟨_, _, rfl, h, h'⟩
end
section
variable {X : Cx}
def fLen : List W → Option OR
  | [w] => match seqOf w with
    | some ws => some (.imm (.int (ws.length : Nat)))
    | none => match w with
      | .str x => if x.length ≤ sz then some (.imm (.int (x.length : Nat))) else none
      | .byt x => if x.size ≤ sz then some (.imm (.int (x.size : Nat))) else none
      | _ => none
  | _ => none
theorem cm_len : CallM X (.builtin "len") fLen := by
  refine ⟨_, call_len, fun io M H ws vs z Q rx e q => ?_⟩
  unfold fLen at e
  split at e
  · rename_i w
    obtain ⟨v, rfl, r⟩ := p1 rx
    split at e
    · rename_i ws hs
      cases e
      obtain ⟨a, us, rfl, h, r2⟩ := r.seq (seqOf_some hs)
      refine ⟨_, us.length, rfl, h.imp (fun h => ⟨us, h, rfl⟩) (fun h => ⟨us, h, rfl⟩), ?_⟩
      rw [← r2.1]
      exact q _ (.int _)
    · split at e
      · split at e
        · rename_i hz
          cases e
          have := r.str
          subst this
          exact ⟨_, _, rfl, ⟨by rw [sz_eq]; exact hz, rfl⟩, q _ (.int _)⟩
        · cases e
      · split at e
        · rename_i hz
          cases e
          have := r.byt
          subst this
          exact ⟨_, _, rfl, ⟨by rw [sz_eq]; exact hz, rfl⟩, q _ (.int _)⟩
        · cases e
      · cases e
  · cases e
def fList : List W → Option OR
  | [w] => (seqOf w).map .newl
  | _ => none
theorem cm_list : CallM X (.type "list") fList := by
  refine ⟨_, call_list_of, fun io M H ws vs z Q rx e q => ?_⟩
  unfold fList at e
  split at e
  · obtain ⟨v, rfl, r⟩ := p1 rx
    obtain ⟨ws, hs, rfl⟩ := Option.map_eq_some_iff.mp e
    obtain ⟨a, us, rfl, h, r2⟩ := r.seq (seqOf_some hs)
    exact ⟨a, us, rfl, h, fun l hl => q l us hl r2⟩
  · cases e
def fTuple : List W → Option OR
  | [.lst ws] => some (.newt ws)
  | [.frl ws] => some (.newt ws)
  | [.tup ws] => some (.imm (.tup ws))
  | _ => none
theorem cm_tuple : CallM X (.type "tuple") fTuple := by
  refine ⟨_, call_tuple_of, fun io M H ws vs z Q rx e q => ?_⟩
  unfold fTuple at e
  split at e
  · obtain ⟨v, rfl, r⟩ := p1 rx
    cases e
    obtain ⟨a, us, rfl, h, r2⟩ := r.lst
    exact ⟨a, us, rfl, .inl ⟨SqL.of h, fun l hl => q l us hl r2⟩⟩
  · obtain ⟨v, rfl, r⟩ := p1 rx
    cases e
    obtain ⟨a, us, rfl, h, r2⟩ := r.frl
    exact ⟨a, us, rfl, .inl ⟨h, fun l hl => q l us hl r2⟩⟩
  · obtain ⟨v, rfl, r⟩ := p1 rx
    cases e
    have rw := r.tupRw
    obtain ⟨a, us, rfl, h, r2⟩ := r.tup
    exact ⟨a, us, rfl, .inr ⟨h, q _ rw⟩⟩
  · cases e
def fInt1 : List W → Option OR
  | [.int i] => some (.imm (.int i))
  | [.bl b] => some (.imm (.int (if b then 1 else 0)))
  | _ => none
theorem cm_int : CallM X (.type "int") fInt1 := by
  refine ⟨_, call_int1, fun io M H ws vs z Q rx e q => ?_⟩
  unfold fInt1 at e
  split at e
  · obtain ⟨v, rfl, r⟩ := p1 rx
    cases e
    have := r.int
    subst this
    exact .inl ⟨_, rfl, q _ (.int _)⟩
  · obtain ⟨v, rfl, r⟩ := p1 rx
    cases e
    have := r.bl
    subst this
    exact .inr ⟨_, rfl, q _ (.int _)⟩
  · cases e
def blsOf : List W → Option (List Bool)
  | [] => some []
  | .bl b :: ws => (blsOf ws).map (b :: ·)
  | _ => none
def intsOf : List W → Option (List Int)
  | [] => some []
  | .int b :: ws => (intsOf ws).map (b :: ·)
  | _ => none
theorem blsOf_ok {K : PySem.W.Frag} {mg : Str → Option Value} {io : List Addr} {M : Addr → Prop} {H : Hp} : ∀ {ws : List W} {vs : List V} {bs : List Bool}, Rws K mg io M H ws vs → blsOf ws = some bs → vs = bs.map V.bl
  | [], vs, bs, h, e => by
    rw [h.nil_inv]
    simp only [blsOf, Option.some.injEq] at e
    subst e
    rfl
  | w :: ws, vs, bs, h, e => by
    obtain ⟨v, r, rfl, h1, h2⟩ := h.cons_inv
    cases w <;> simp only [blsOf, Option.map_eq_some_iff, reduceCtorEq] at e
    obtain ⟨bs', e1, rfl⟩ := e
    cases h1
    rw [blsOf_ok h2 e1]
    rfl
theorem intsOf_ok {K : PySem.W.Frag} {mg : Str → Option Value} {io : List Addr} {M : Addr → Prop} {H : Hp} : ∀ {ws : List W} {vs : List V} {bs : List Int}, Rws K mg io M H ws vs → intsOf ws = some bs → vs = bs.map V.int
  | [], vs, bs, h, e => by
    rw [h.nil_inv]
    simp only [intsOf, Option.some.injEq] at e
    subst e
    rfl
  | w :: ws, vs, bs, h, e => by
    obtain ⟨v, r, rfl, h1, h2⟩ := h.cons_inv
    cases w <;> simp only [intsOf, Option.map_eq_some_iff, reduceCtorEq] at e
    obtain ⟨bs', e1, rfl⟩ := e
    cases h1
    rw [intsOf_ok h2 e1]
    rfl
def fAll : List W → Option OR
  | [.lst ws] => (blsOf ws).map fun bs => .imm (.bl (bs.all id))
  | _ => none
theorem cm_all (hc : X.calm = true := by rfl) : CallM X (.builtin "all") fAll := by
  refine ⟨_, cr_all hc, fun io M H ws vs z Q rx e q => ?_⟩
  unfold fAll at e
  split at e
  · obtain ⟨v, rfl, r⟩ := p1 rx
    obtain ⟨bs, e1, rfl⟩ := Option.map_eq_some_iff.mp e
    obtain ⟨a, us, rfl, h, r2⟩ := r.lst
    have := blsOf_ok r2 e1
    subst this
    exact ⟨a, bs, rfl, SqL.of h, q _ (.bl _)⟩
  · cases e
def fAny : List W → Option OR
  | [.lst ws] => (blsOf ws).map fun bs => .imm (.bl (bs.any id))
  | _ => none
theorem cm_any (hc : X.calm = true := by rfl) : CallM X (.builtin "any") fAny := by
  refine ⟨_, cr_any hc, fun io M H ws vs z Q rx e q => ?_⟩
  unfold fAny at e
  split at e
  · obtain ⟨v, rfl, r⟩ := p1 rx
    obtain ⟨bs, e1, rfl⟩ := Option.map_eq_some_iff.mp e
    obtain ⟨a, us, rfl, h, r2⟩ := r.lst
    have := blsOf_ok r2 e1
    subst this
    exact ⟨a, bs, rfl, SqL.of h, q _ (.bl _)⟩
  · cases e
def fSum : List W → Option OR
  | [.lst ws] => (intsOf ws).map fun bs => .imm (.int bs.sum)
  | _ => none
theorem cm_sum (hc : X.calm = true := by rfl) : CallM X (.builtin "sum") fSum := by
  refine ⟨_, cr_sum hc, fun io M H ws vs z Q rx e q => ?_⟩
  unfold fSum at e
  split at e
  · obtain ⟨v, rfl, r⟩ := p1 rx
    obtain ⟨bs, e1, rfl⟩ := Option.map_eq_some_iff.mp e
    obtain ⟨a, us, rfl, h, r2⟩ := r.lst
    have := intsOf_ok r2 e1
    subst this
    exact ⟨a, bs, rfl, SqL.of h, q _ (.int _)⟩
  · cases e
end
section
variable {X : Cx} {ea : EA} {Wx : WX} {e : Expr} {es : List Expr} {m : Mo RV} {ms : Mo (List RV)} {pos p : Pos}
theorem pea_nil : Pea X ea Wx [] mNil := ⟨_, pa_nil, ref_nil⟩
theorem pea_cons (ha : Pee X ea Wx e m) (hr : Pea X ea Wx es ms) (hs : starEach (e :: es) X.env = (false, eval e X.env) :: starEach es X.env := by rfl) : Pea X ea Wx (e :: es) (mCons m ms) :=
  let ⟨_, p, r⟩ := ha.ex; let ⟨_, p', r'⟩ := hr.ex; ⟨_, pa_cons p p' hs, ref_cons r r'⟩
theorem pee_tup {x1} (h : Pea X ea Wx es ms) : Pee X ea Wx (.Tuple es x1 pos) (mTup ms) := let ⟨_, p, r⟩ := h.ex; ⟨_, pe_tup p, ref_tup r⟩
theorem pee_lst (h : Pea X ea Wx es ms) : Pee X ea Wx (.List es pos) (mLst ms) := let ⟨_, p, r⟩ := h.ex; ⟨_, pe_lst p, ref_lst r⟩
theorem pee_cb {f : List W → Option OR} {id : String} {x : Str} (hc : CallM X (.builtin id) f) (hm : X.mg x = none) (ha : Pea X ea Wx (e :: es) ms) (hg : Gl X x := by rfl) (hv : bootBuiltins x = some (.builtin id) := by decide +kernel) (hn : x ≠ "__name__" := by decide) (hdb : (x == ("__debug__" : Str)) = false := by decide)
    (he : starEach (e :: es) X.env = (false, eval e X.env) :: starEach es X.env := by rfl) (hpl : (backTo pos (starEach es X.env)).any (·.1) = false := by rfl) : Pee X ea Wx (.Call (.Name x p) (e :: es) [] pos) (mCB f ms) :=
  let ⟨_, p, r⟩ := ha.ex; let ⟨_, h1, h2⟩ := hc; ⟨_, pe_callB h1 hg hm hv p hn hdb he hpl, ref_cb h2 r⟩
theorem pee_ct {f : List W → Option OR} {T : String} {x : Str} (hc : CallM X (.type T) f) (hm : X.mg x = none) (ha : Pea X ea Wx (e :: es) ms) (hg : Gl X x := by rfl) (hv : bootBuiltins x = some (.type T) := by decide +kernel) (hn : x ≠ "__name__" := by decide) (hdb : (x == ("__debug__" : Str)) = false := by decide)
    (he : starEach (e :: es) X.env = (false, eval e X.env) :: starEach es X.env := by rfl) (hpl : (backTo pos (starEach es X.env)).any (·.1) = false := by rfl) : Pee X ea Wx (.Call (.Name x p) (e :: es) [] pos) (mCB f ms) :=
  let ⟨_, p, r⟩ := ha.ex; let ⟨_, h1, h2⟩ := hc; ⟨_, pe_callTy h1 hg hm hv p hn hdb he hpl, ref_cb h2 r⟩
end
end Z
set_option Elab.async false
set_option linter.all false
set_option maxRecDepth 100000
namespace Z
open PySem PySem.Spec PyProof.Rows L2
section
variable {K : PySem.W.Frag} {mg : Str → Option Value} {ea : EA} {io io' : List Addr} {Fr Fr' : Addr → Prop} {s s' s2 : S} {σ σ' : L2.St} {H H' : Hp} {w : W} {v : V} {c : Cell} {o : HO} {a p : Addr}
theorem Sim.sub {r' : List SV} (x : Sim K mg ea io Fr s σ H) (hl : r'.length = σ'.length) (h : ∀ i : Nat, (r'[i]? = s.r[i]? ∧ σ'[i]? = σ[i]?) ∨ r'[i]? = some .non ∨ r'[i]? = none) : Sim K mg ea io Fr { s with r := r' } σ' H ∧ (∀ b, Ms io Fr { s with r := r' } σ' b → Ms io Fr s σ b) := by
  have fo : ∀ b, FrO Fr r' σ' b → FrO Fr s.r σ b := fun b z => z.imp id fun ⟨i, c, h1, h2⟩ => by
    rcases h i with ⟨q1, q2⟩ | q | q
    · exact ⟨i, c, by rw [← q1]; exact h1, by rw [← q2]; exact h2⟩
    · rw [h1] at q; cases q
    · rw [h1] at q; cases q
  have le : ∀ b, Ms io Fr { s with r := r' } σ' b → Ms io Fr s σ b := fun b z => z.imp id (fo b)
  refine ⟨⟨hl, x.g.less fo, fun i w e => ?_, fun i c e => ?_, fun i j c d b e1 e2 e3 e4 => ?_, fun i y e => ?_⟩, le⟩
  · rcases h i with ⟨q1, q2⟩ | q | q
    · obtain ⟨v, h1, h2⟩ := x.val i w (by rw [← q1]; exact e)
      exact ⟨v, by rw [q2]; exact h1, h2.pers (.less le)⟩
    · rw [show r'[i]? = some (.val w) from e] at q; cases q
    · rw [show r'[i]? = some (.val w) from e] at q; cases q
  · rcases h i with ⟨q1, q2⟩ | q | q
    · obtain ⟨b, o, h1, h2, h3, h4⟩ := x.own i c (by rw [← q1]; exact e)
      exact ⟨b, o, by rw [q2]; exact h1, h2, h3.pers (.less le), h4⟩
    · rw [show r'[i]? = some (.own c) from e] at q; cases q
    · rw [show r'[i]? = some (.own c) from e] at q; cases q
  · rcases h i with ⟨q1, q2⟩ | q | q
    · rcases h j with ⟨q3, q4⟩ | q | q
      · exact x.dist i j c d b (by rw [← q1]; exact e1) (by rw [← q3]; exact e2) (by rw [← q2]; exact e3) (by rw [← q4]; exact e4)
      · rw [show r'[j]? = some (.own d) from e2] at q; cases q
      · rw [show r'[j]? = some (.own d) from e2] at q; cases q
    · rw [show r'[i]? = some (.own c) from e1] at q; cases q
    · rw [show r'[i]? = some (.own c) from e1] at q; cases q
  · rcases h i with ⟨q1, q2⟩ | q | q
    · obtain ⟨h1, h2⟩ := x.exc i y (by rw [← q1]; exact e)
      exact ⟨by rw [q2]; exact h1, h2.pers (.less le)⟩
    · rw [show r'[i]? = some (.exc y) from e] at q; cases q
    · rw [show r'[i]? = some (.exc y) from e] at q; cases q
theorem Sim.setVal {i : Nat} (x : Sim K mg ea io Fr s σ H) (h : Rw K mg io (Ms io Fr s σ) H w v) : Sim K mg ea io Fr { s with r := s.r.set i (.val w) } (σ.set i (some v)) H ∧ (∀ b, Ms io Fr { s with r := s.r.set i (.val w) } (σ.set i (some v)) b → Ms io Fr s σ b) := by
  have fo : ∀ b, FrO Fr (s.r.set i (.val w)) (σ.set i (some v)) b → FrO Fr s.r σ b := fun b z => z.imp id fun ⟨j, c, h1, h2⟩ => by
    by_cases e : i = j
    · subst e
      have := get_lt h1
      rw [List.getElem?_set_self (by simpa using this)] at h1
      cases h1
    · rw [List.getElem?_set_ne e] at h1 h2
      exact ⟨j, c, h1, h2⟩
  have le : ∀ b, Ms io Fr { s with r := s.r.set i (.val w) } (σ.set i (some v)) b → Ms io Fr s σ b := fun b z => z.imp id (fo b)
  refine ⟨⟨by simp [x.len], x.g.less fo, fun j u e => ?_, fun j c e => ?_, fun j k c d b e1 e2 e3 e4 => ?_, fun j y e => ?_⟩, le⟩
  · by_cases ij : i = j
    · subst ij
      have hi := get_lt e
      simp only [List.length_set] at hi
      rw [List.getElem?_set_self hi] at e
      cases e
      exact ⟨v, List.getElem?_set_self (by rw [← x.len]; exact hi), h.pers (.less le)⟩
    · rw [List.getElem?_set_ne ij] at e
      obtain ⟨y, h1, h2⟩ := x.val j u e
      exact ⟨y, by rw [List.getElem?_set_ne ij]; exact h1, h2.pers (.less le)⟩
  · by_cases ij : i = j
    · subst ij
      have hi := get_lt e
      simp only [List.length_set] at hi
      rw [List.getElem?_set_self hi] at e
      cases e
    · rw [List.getElem?_set_ne ij] at e
      obtain ⟨b, o, h1, h2, h3, h4⟩ := x.own j c e
      exact ⟨b, o, by rw [List.getElem?_set_ne ij]; exact h1, h2, h3.pers (.less le), h4⟩
  · by_cases ij : i = j
    · subst ij
      have hi := get_lt e1
      simp only [List.length_set] at hi
      rw [List.getElem?_set_self hi] at e1
      cases e1
    · by_cases ik : i = k
      · subst ik
        have hi := get_lt e2
        simp only [List.length_set] at hi
        rw [List.getElem?_set_self hi] at e2
        cases e2
      · rw [List.getElem?_set_ne ij] at e1 e3
        rw [List.getElem?_set_ne ik] at e2 e4
        exact x.dist j k c d b e1 e2 e3 e4
  · by_cases ij : i = j
    · subst ij
      have hi := get_lt e
      simp only [List.length_set] at hi
      rw [List.getElem?_set_self hi] at e
      cases e
    · rw [List.getElem?_set_ne ij] at e ⊢
      obtain ⟨h1, h2⟩ := x.exc j y e
      exact ⟨h1, h2.pers (.less le)⟩
theorem Sim.setOwn {i : Nat} (x : Sim K mg ea io (pls Fr a) s σ H) (ha : H a = some o) (nf : ¬ FrO Fr s.r σ a) (h : Rc K mg io (Ms io (pls Fr a) s σ) H c o) :
    Sim K mg ea io Fr { s with r := s.r.set i (.own c) } (σ.set i (some (V.ref a))) H ∧ (∀ b, Ms io Fr { s with r := s.r.set i (.own c) } (σ.set i (some (V.ref a))) b → Ms io (pls Fr a) s σ b) := by
  have fo : ∀ b, FrO Fr (s.r.set i (.own c)) (σ.set i (some (V.ref a))) b → FrO (pls Fr a) s.r σ b := fun b z => by
    rcases z with z | ⟨j, d, h1, h2⟩
    · exact .inl (.inl z)
    · by_cases e : i = j
      · subst e
        have hi := get_lt h2
        simp only [List.length_set] at hi
        rw [List.getElem?_set_self hi] at h2
        cases h2
        exact .inl (.inr rfl)
      · rw [List.getElem?_set_ne e] at h1 h2
        exact .inr ⟨j, d, h1, h2⟩
  have le : ∀ b, Ms io Fr { s with r := s.r.set i (.own c) } (σ.set i (some (V.ref a))) b → Ms io (pls Fr a) s σ b := fun b z => z.imp id (fo b)
  have nF : ¬ Fr a := fun z => nf (.inl z)
  have nO : ∀ (j : Nat) d, s.r[j]? = some (.own d) → σ[j]? = some (some (V.ref a)) → False := fun j d h1 h2 => nf (.inr ⟨j, d, h1, h2⟩)
  refine ⟨⟨by simp [x.len], x.g.less fo, fun j u e => ?_, fun j d e => ?_, fun j k d d' b e1 e2 e3 e4 => ?_, fun j y e => ?_⟩, le⟩
  · by_cases ij : i = j
    · subst ij
      have hi := get_lt e
      simp only [List.length_set] at hi
      rw [List.getElem?_set_self hi] at e
      cases e
    · rw [List.getElem?_set_ne ij] at e
      obtain ⟨y, h1, h2⟩ := x.val j u e
      exact ⟨y, by rw [List.getElem?_set_ne ij]; exact h1, h2.pers (.less le)⟩
  · by_cases ij : i = j
    · subst ij
      have hi := get_lt e
      simp only [List.length_set] at hi
      rw [List.getElem?_set_self hi] at e
      cases e
      exact ⟨a, o, List.getElem?_set_self (by rw [← x.len]; exact hi), ha, h.pers (.less le), nF⟩
    · rw [List.getElem?_set_ne ij] at e
      obtain ⟨b, o, h1, h2, h3, h4⟩ := x.own j d e
      exact ⟨b, o, by rw [List.getElem?_set_ne ij]; exact h1, h2, h3.pers (.less le), fun z => h4 (.inl z)⟩
  · by_cases ij : i = j
    · subst ij
      by_cases ik : i = k
      · exact ik
      · have hi := get_lt e3
        simp only [List.length_set] at hi
        rw [List.getElem?_set_self hi] at e3
        cases e3
        rw [List.getElem?_set_ne ik] at e2 e4
        exact (nO k d' e2 e4).elim
    · by_cases ik : i = k
      · subst ik
        have hi := get_lt e4
        simp only [List.length_set] at hi
        rw [List.getElem?_set_self hi] at e4
        cases e4
        rw [List.getElem?_set_ne ij] at e1 e3
        exact (nO j d e1 e3).elim
      · rw [List.getElem?_set_ne ij] at e1 e3
        rw [List.getElem?_set_ne ik] at e2 e4
        exact x.dist j k d d' b e1 e2 e3 e4
  · by_cases ij : i = j
    · subst ij
      have hi := get_lt e
      simp only [List.length_set] at hi
      rw [List.getElem?_set_self hi] at e
      cases e
    · rw [List.getElem?_set_ne ij] at e ⊢
      obtain ⟨h1, h2⟩ := x.exc j y e
      exact ⟨h1, h2.pers (.less le)⟩
def setM (i : Nat) (x : SV) : Mo Fl := fun s => some (.ok .nx, { s with r := s.r.set i x })
def land : RV → Mo SV
  | .val w => ret (.val w)
  | .own c => ret (.own c)
  | .hnd j => bnd (freeze (.hnd j)) fun w => ret (.val w)
def mAsg (i : Nat) (m : Mo RV) : Mo Fl := bnd m fun x => bnd (land x) fun y => setM i y
variable {Wx : WX}
theorem PostF.trans {M M1 : Addr → Prop} {G' : List Cell} {io1 : List Addr} {H1 : Hp} {f : FV} (T : Stp io M Fr H io1 M1 H1) (p : PostF K mg io1 M1 Fr H1 G' io' H' f v) : PostF K mg io M Fr H G' io' H' f v := by
  cases f with
  | val w => exact ⟨p.1, T.trans p.2.1, p.2.2⟩
  | own c =>
    obtain ⟨a, o, h1, h2, h3, h4, h5, h6⟩ := p
    exact ⟨a, o, h1, h2, h3, h4, T.trans h5, h6⟩
theorem ref_asg {te : TE} {m : Mo RV} (i : Nat) (h : RefE K mg ea Wx te m) : RefS K mg ea Wx (tAsg te (gName i)) (mAsg i m) := by
  intro σ H io Fr s S0 r0 s' e D hnx hbk hct hrt hex
  refine one2 h S0 e (fun x q cls d H' io' px => hex x q cls d σ H' io' px) fun x v s1 H1 io1 e2 px => ?_
  cases x with
  | val w =>
    obtain ⟨S1, T1, R1⟩ := px
    obtain ⟨S2, l2⟩ := S1.setVal (i := i) R1
    cases e2
    exact hnx rfl _ _ _ ⟨S2, T1.less l2⟩
  | own c =>
    obtain ⟨a, o, rfl, ha, nf, S1, T1, R1⟩ := px
    obtain ⟨S2, l2⟩ := S1.setOwn (i := i) ha nf R1
    cases e2
    exact hnx rfl _ _ _ ⟨S2, T1.less l2⟩
  | hnd j =>
    obtain ⟨S1, T1, R1⟩ := px
    rcases bnd_some e2 with ⟨z, e3, rfl⟩ | ⟨y, s3, e3, e4⟩
    · rcases bnd_some e3 with ⟨z', e5, _⟩ | ⟨w', s5, e5, e6⟩
      · obtain ⟨_, _, _, _, q, _⟩ := freeze_ok S1 (x := .hnd j) (v := v) R1 e5
        cases q
      · cases e6
    · rcases bnd_some e3 with ⟨z', e5, q⟩ | ⟨w', s5, e5, e6⟩
      · cases q
      · obtain ⟨g, l, S5, w2, q, R5⟩ := freeze_ok S1 (x := .hnd j) (v := v) R1 e5
        cases q
        cases e6
        obtain ⟨S2, l2⟩ := S5.setVal (i := i) R5
        cases e4
        exact hnx rfl _ _ _ ⟨S2, T1.less fun b z => l b (l2 b z)⟩
def mSeq (a b : Mo Fl) : Mo Fl := bnd a fun f => match f with
  | .nx => b
  | f => ret f
def mNext : Mo Fl := ret .nx
theorem ref_next : RefS K mg ea Wx tNext mNext := by
  intro σ H io Fr s S0 r0 s' e D hnx hbk hct hrt hex
  cases e
  exact hnx rfl _ _ _ ⟨S0, .refl⟩
theorem ref_seq {t u : TS} {a b : Mo Fl} (h : RefS K mg ea Wx t a) (h' : RefS K mg ea Wx u b) : RefS K mg ea Wx (tSeq t u) (mSeq a b) := by
  intro σ H io Fr s S0 r0 s' e D hnx hbk hct hrt hex
  rcases bnd_some e with ⟨x, e1, rfl⟩ | ⟨f, s1, e1, e2⟩
  · exact h σ H io Fr s S0 _ _ e1 _ (fun q => by cases q) (fun q => by cases q) (fun q => by cases q) (fun _ q => by cases q) fun x' q cls d σ' H' io' px => by
      cases q
      exact hex _ rfl cls d σ' H' io' px
  · cases f with
    | nx =>
      refine h σ H io Fr s S0 _ _ e1 _ (fun q σ1 H1 io1 px => ?_) (fun q => by cases q) (fun q => by cases q) (fun _ q => by cases q) (fun _ q => by cases q)
      exact h' σ1 H1 io1 Fr s1 px.1 _ _ e2 D (fun q σ2 H2 io2 py => hnx q σ2 H2 io2 ⟨py.1, px.2.trans py.2⟩) (fun q σ2 H2 io2 py => hbk q σ2 H2 io2 ⟨py.1, px.2.trans py.2⟩) (fun q σ2 H2 io2 py => hct q σ2 H2 io2 ⟨py.1, px.2.trans py.2⟩)
        (fun f q v H2 io2 py => hrt f q v H2 io2 (py.trans px.2)) fun x q cls d σ2 H2 io2 py => hex x q cls d σ2 H2 io2 ⟨py.1, px.2.trans py.2.1, py.2.2⟩
    | bk =>
      cases e2
      exact h σ H io Fr s S0 _ _ e1 _ (fun q => by cases q) hbk (fun q => by cases q) (fun _ q => by cases q) (fun _ q => by cases q)
    | ct =>
      cases e2
      exact h σ H io Fr s S0 _ _ e1 _ (fun q => by cases q) (fun q => by cases q) hct (fun _ q => by cases q) (fun _ q => by cases q)
    | rt f =>
      cases e2
      exact h σ H io Fr s S0 _ _ e1 _ (fun q => by cases q) (fun q => by cases q) (fun q => by cases q) hrt (fun _ q => by cases q)
def mBreak : Mo Fl := ret .bk
theorem ref_break : RefS K mg ea Wx tBreak mBreak := by
  intro σ H io Fr s S0 r0 s' e D hnx hbk hct hrt hex
  cases e
  exact hbk rfl _ _ _ ⟨S0, .refl⟩
def mDrop (m : Mo RV) : Mo Fl := bnd m fun _ => ret .nx
theorem ref_drop {te : TE} {m : Mo RV} (h : RefE K mg ea Wx te m) : RefS K mg ea Wx (tDrop te) (mDrop m) := by
  intro σ H io Fr s S0 r0 s' e D hnx hbk hct hrt hex
  refine one2 h S0 e (fun x q cls d H' io' px => hex x q cls d σ H' io' px) fun x v s1 H1 io1 e2 px => ?_
  cases e2
  obtain ⟨S1, T1, _⟩ := px.settled
  exact hnx rfl _ _ _ ⟨S1, T1⟩
def retM : RV → Mo Fl
  | .val w => ret (.rt (.val w))
  | .own c => ret (.rt (.own c))
  | .hnd i => fun s => match s.r[i]? with
    | some (.own c) => some (.ok (.rt (.own c)), s)
    | some (.val w) => some (.ok (.rt (.val w)), s)
    | _ => none
def mRet (m : Mo RV) : Mo Fl := bnd m retM
theorem PostF.ofVal (S1 : Sim K mg ea io' Fr s2 σ H') {M : Addr → Prop} (T : Stp io M Fr H io' (Ms io' Fr s2 σ) H') (R : Rw K mg io' (Ms io' Fr s2 σ) H' w v) : PostF K mg io M Fr H s2.G io' H' (.val w) v := by
  have le : ∀ b, Mu io' Fr b → Ms io' Fr s2 σ b := fun b z => z.imp id .inl
  exact ⟨S1.g.less (s := s2) fun b z => .inl z, T.less le, R.pers (.less le)⟩
theorem ref_ret {te : TE} {m : Mo RV} (h : RefE K mg ea Wx te m) : RefS K mg ea Wx (tRet te) (mRet m) := by
  intro σ H io Fr s S0 r0 s' e D hnx hbk hct hrt hex
  refine one2 h S0 e (fun x q cls d H' io' px => hex x q cls d σ H' io' px) fun x v s1 H1 io1 e2 px => ?_
  cases x with
  | val w =>
    obtain ⟨S1, T1, R1⟩ := px
    cases e2
    exact hrt _ rfl _ _ _ (.ofVal S1 T1 R1)
  | own c =>
    obtain ⟨a, o, rfl, ha, nf, S1, T1, R1⟩ := px
    have le : ∀ b, Mu io1 (pls Fr a) b → Ms io1 (pls Fr a) s1 σ b := fun b z => z.imp id .inl
    have g1 := S1.g.less (s := s1) (Fr' := pls Fr a) fun b z => .inl z
    have T2 := T1.less le
    have R2 := R1.pers (.less le)
    cases e2
    exact hrt _ rfl _ _ _ ⟨a, o, rfl, ha, fun z => nf (.inl z), g1, T2, R2⟩
  | hnd i =>
    obtain ⟨S1, T1, R1⟩ := px
    simp only [retM] at e2
    split at e2
    · rename_i c q
      obtain ⟨a, o, q1, q2, q3, q4⟩ := S1.own i c q
      rw [R1] at q1
      cases q1
      have fo : ∀ b, pls Fr a b → FrO Fr s1.r σ b := fun b z => by
        rcases z with z | z
        · exact .inl z
        · exact .inr ⟨i, c, q, by rw [z]; exact R1⟩
      have le : ∀ b, Mu io1 (pls Fr a) b → Ms io1 Fr s1 σ b := fun b z => z.imp id (fo b)
      have g1 := S1.g.less (s := s1) fo
      have T2 := T1.less le
      have R2 := q3.pers (.less le)
      cases e2
      exact hrt _ rfl _ _ _ ⟨a, o, rfl, q2, q4, g1, T2, R2⟩
    · rename_i w q
      obtain ⟨u, q1, q2⟩ := S1.val i w q
      rw [R1] at q1
      cases q1
      cases e2
      exact hrt _ rfl _ _ _ (.ofVal S1 T1 q2)
    · cases e2
def mIf (c : Mo Bool) (a b : Mo Fl) : Mo Fl := bnd c fun x => if x = true then a else b
theorem ref_if {c : TT} {mc : Mo Bool} {t u : TS} {a b : Mo Fl} (hc : RefT K mg ea Wx c mc) (h : RefS K mg ea Wx t a) (h' : RefS K mg ea Wx u b) : RefS K mg ea Wx (tIfS c t u) (mIf mc a b) := by
  intro σ H io Fr s S0 r0 s' e D hnx hbk hct hrt hex
  refine tst2 hc S0 e (fun x q cls d H' io' px => hex x q cls d σ H' io' px) fun k s1 H1 io1 e2 px => ?_
  have go : ∀ {t : TS} {a : Mo Fl}, RefS K mg ea Wx t a → a s1 = some (r0, s') → t D σ H1 := fun {t a} h e2 =>
    h σ H1 io1 Fr s1 px.1 _ _ e2 D (fun q σ2 H2 io2 py => hnx q σ2 H2 io2 ⟨py.1, px.2.trans py.2⟩) (fun q σ2 H2 io2 py => hbk q σ2 H2 io2 ⟨py.1, px.2.trans py.2⟩) (fun q σ2 H2 io2 py => hct q σ2 H2 io2 ⟨py.1, px.2.trans py.2⟩)
        (fun f q v H2 io2 py => hrt f q v H2 io2 (py.trans px.2)) fun x q cls d σ2 H2 io2 py => hex x q cls d σ2 H2 io2 ⟨py.1, px.2.trans py.2.1, py.2.2⟩
  cases k with
  | true => exact go h e2
  | false => exact go h' e2
def mIfE (c : Mo Bool) (a b : Mo RV) : Mo RV := bnd c fun x => if x = true then a else b
theorem PostE.trans {io1 : List Addr} {H1 : Hp} {s1 : S} {x : RV} (T : Stp io (Ms io Fr s σ) Fr H io1 (Ms io1 Fr s1 σ) H1) (p : PostE K mg ea io1 Fr s1 σ H1 s' io' H' x v) : PostE K mg ea io Fr s σ H s' io' H' x v := by
  cases x with
  | val w => exact ⟨p.1, T.trans p.2.1, p.2.2⟩
  | hnd i => exact ⟨p.1, T.trans p.2.1, p.2.2⟩
  | own c =>
    obtain ⟨a, o, h1, h2, h3, h4, h5, h6⟩ := p
    exact ⟨a, o, h1, h2, h3, h4, T.trans h5, h6⟩
theorem ref_ife {c : TT} {mc : Mo Bool} {t u : TE} {a b : Mo RV} (hc : RefT K mg ea Wx c mc) (h : RefE K mg ea Wx t a) (h' : RefE K mg ea Wx u b) : RefE K mg ea Wx (tIf c t u) (mIfE mc a b) := by
  intro σ H io Fr s S0 r0 s' e Q hok hex
  refine tst2 hc S0 e hex fun k s1 H1 io1 e2 px => ?_
  cases k with
  | true => exact h σ H1 io1 Fr s1 px.1 _ _ e2 Q (fun x q v H2 io2 py => hok x q v H2 io2 (py.trans px.2)) fun x q cls d H2 io2 py => hex x q cls d H2 io2 ⟨py.1, px.2.trans py.2.1, py.2.2⟩
  | false => exact h' σ H1 io1 Fr s1 px.1 _ _ e2 Q (fun x q v H2 io2 py => hok x q v H2 io2 (py.trans px.2)) fun x q cls d H2 io2 py => hex x q cls d H2 io2 ⟨py.1, px.2.trans py.2.1, py.2.2⟩
def mAndV (a b : Mo RV) : Mo RV := bnd (mB a) fun x => if x = true then b else ret (.val (.bl false))
def mNotV (a : Mo RV) : Mo RV := bnd (mB a) fun x => ret (.val (.bl (!x)))
theorem ref_andV {t u : TE} {a b : Mo RV} (h : RefE K mg ea Wx t a) (h' : RefE K mg ea Wx u b) : RefE K mg ea Wx (tAndV t u) (mAndV a b) := by
  intro σ H io Fr s S0 r0 s' e Q hok hex
  refine tst2 (ref_test h) S0 e hex fun k s1 H1 io1 e2 px => ?_
  cases k with
  | true => exact h' σ H1 io1 Fr s1 px.1 _ _ e2 Q (fun x q v H2 io2 py => hok x q v H2 io2 (py.trans px.2)) fun x q cls d H2 io2 py => hex x q cls d H2 io2 ⟨py.1, px.2.trans py.2.1, py.2.2⟩
  | false => cases e2; exact hok _ rfl _ _ _ ⟨px.1, px.2, .bl _⟩
theorem ref_notV {t : TE} {a : Mo RV} (h : RefE K mg ea Wx t a) : RefE K mg ea Wx (tNotV t) (mNotV a) := by
  intro σ H io Fr s S0 r0 s' e Q hok hex
  refine tst2 (ref_test h) S0 e hex fun k s1 H1 io1 e2 px => ?_
  cases e2
  exact hok _ rfl _ _ _ ⟨px.1, px.2, .bl _⟩
structure RefG (K : PySem.W.Frag) (mg : Str → Option Value) (ea : EA) (g : TG) (tg : W → Mo Unit) (vs : List Nat) : Prop where
  ne : ∀ w s r s', tg w s = some (r, s') → r = .ok ()
  go : ∀ (σ : L2.St) (H : Hp) (io : List Addr) (Fr : Addr → Prop) (s : S) (w : W) (v : V), Sim K mg ea io Fr s σ H → Rw K mg io (Ms io Fr s σ) H w v →
    ∀ r s', tg w s = some (r, s') → ∀ Q : L2.St → Hp → Prop, (∀ σ', Sim K mg ea io Fr s' σ' H → (∀ b, Ms io Fr s' σ' b → Ms io Fr s σ b) → σ'.length = σ.length → (∀ j, j ∉ vs → σ'[j]? = σ[j]?) → Q σ' H) → g v σ H Q
structure RefGs (K : PySem.W.Frag) (mg : Str → Option Value) (ea : EA) (g : TGs) (tg : List W → Mo Unit) (vs : List Nat) : Prop where
  ne : ∀ w s r s', tg w s = some (r, s') → r = .ok ()
  go : ∀ (σ : L2.St) (H : Hp) (io : List Addr) (Fr : Addr → Prop) (s : S) (ws : List W) (us : List V), Sim K mg ea io Fr s σ H → Rws K mg io (Ms io Fr s σ) H ws us →
    ∀ r s', tg ws s = some (r, s') → ∀ Q : L2.St → Hp → Prop, (∀ σ', Sim K mg ea io Fr s' σ' H → (∀ b, Ms io Fr s' σ' b → Ms io Fr s σ b) → σ'.length = σ.length → (∀ j, j ∉ vs → σ'[j]? = σ[j]?) → Q σ' H) → g us σ H Q
def tgN (i : Nat) (w : W) : Mo Unit := fun s => some (.ok (), { s with r := s.r.set i (.val w) })
def tgsNil : List W → Mo Unit
  | [] => ret ()
  | _ => stk
def tgsCons (t : W → Mo Unit) (u : List W → Mo Unit) : List W → Mo Unit
  | w :: ws => bnd (t w) fun _ => u ws
  | [] => stk
def tgT (n : Nat) (u : List W → Mo Unit) : W → Mo Unit
  | .tup ws => if ws.length = n then u ws else stk
  | _ => stk
theorem ref_tgN (i : Nat) : RefG K mg ea (gName i) (tgN i) [i] where
  ne := fun w s r s' e => by cases e; rfl
  go := by
    intro σ H io Fr s w v S0 R r s' e
    cases e
    intro Q hq
    obtain ⟨S1, l⟩ := S0.setVal (i := i) R
    exact hq _ S1 l (by simp) fun j hj => List.getElem?_set_ne fun z => hj (by simp [z])
theorem ref_tgsNil : RefGs K mg ea gNil tgsNil [] where
  ne := fun w s r s' e => by
    cases w with
    | nil => cases e; rfl
    | cons _ _ => cases e
  go := by
    intro σ H io Fr s ws vs S0 R r s' e
    cases ws with
    | nil => cases e; exact fun Q hq => ⟨R.nil_inv, hq σ S0 (fun _ z => z) rfl fun _ _ => rfl⟩
    | cons w ws => cases e
theorem ref_tgsCons {t : TG} {u : TGs} {tm : W → Mo Unit} {um : List W → Mo Unit} {l1 l2 : List Nat} (h : RefG K mg ea t tm l1) (h' : RefGs K mg ea u um l2) : RefGs K mg ea (gCons t u) (tgsCons tm um) (l1 ++ l2) where
  ne := fun w s r s' e => by
    cases w with
    | nil => cases e
    | cons w ws =>
      rcases bnd_some e with ⟨x, e1, rfl⟩ | ⟨_, s1, e1, e2⟩
      · have := h.ne _ _ _ _ e1
        cases this
      · exact h'.ne _ _ _ _ e2
  go := by
    intro σ H io Fr s ws vs S0 R r s' e
    cases ws with
    | nil => cases e
    | cons w ws =>
      intro Q hq
      obtain ⟨v, r', rfl, h1, h2⟩ := R.cons_inv
      refine ⟨v, r', rfl, ?_⟩
      rcases bnd_some e with ⟨x, e1, rfl⟩ | ⟨_, s1, e1, e2⟩
      · have := h.ne _ _ _ _ e1
        cases this
      · refine h.go σ H io Fr s w v S0 h1 _ _ e1 _ fun σ1 S1 l1 n1 k1 => ?_
        exact h'.go σ1 H io Fr s1 ws r' S1 (h2.pers (.less l1)) _ _ e2 Q fun σ2 S2 l2 n2 k2 => hq σ2 S2 (fun b z => l1 b (l2 b z)) (n2.trans n1) fun j hj => by
          simp only [List.mem_append, not_or] at hj
          exact (k2 j hj.2).trans (k1 j hj.1)
theorem ref_tgT {n : Nat} {u : TGs} {um : List W → Mo Unit} {l : List Nat} (h : RefGs K mg ea u um l) : RefG K mg ea (gTup K n u) (tgT n um) l where
  ne := fun w s r s' e => by
    unfold tgT at e
    split at e
    · split at e
      · exact h.ne _ _ _ _ e
      · cases e
    · cases e
  go := by
    intro σ H io Fr s w v S0 R r s' e Q hq
    unfold tgT at e
    split at e
    · rename_i ws
      split at e
      · rename_i hn
        obtain ⟨a, vs, rfl, ha, r2⟩ := Rn.tup (.inl R)
        exact ⟨a, vs, rfl, ha, by rw [← r2.1]; exact hn, h.go σ H io Fr s ws vs S0 r2 _ _ e Q hq⟩
      · cases e
    · cases e
def mAsgT (t : W → Mo Unit) (m : Mo RV) : Mo Fl := bnd m fun x => bnd (freeze (settle x)) fun w => bnd (t w) fun _ => ret .nx
theorem ref_asgT {te : TE} {g : TG} {m : Mo RV} {t : W → Mo Unit} {l : List Nat} (h : RefE K mg ea Wx te m) (hg : RefG K mg ea g t l) : RefS K mg ea Wx (tAsg te g) (mAsgT t m) := by
  intro σ H io Fr s S0 r0 s' e D hnx hbk hct hrt hex
  refine one2 h S0 e (fun x q cls d H' io' px => hex x q cls d σ H' io' px) fun x v s1 H1 io1 e2 px => ?_
  obtain ⟨S1, T1, R1⟩ := px.settled
  rcases bnd_some e2 with ⟨z, e3, _⟩ | ⟨w, s3, e3, e4⟩
  · obtain ⟨_, _, _, _, q, _⟩ := freeze_ok S1 R1 e3
    cases q
  · obtain ⟨_, l3, S3, w', q, R3⟩ := freeze_ok S1 R1 e3
    cases q
    rcases bnd_some e4 with ⟨z, e5, rfl⟩ | ⟨_, s5, e5, e6⟩
    · have := hg.ne _ _ _ _ e5
      cases this
    · refine hg.go σ H1 io1 Fr s3 _ v S3 R3 _ _ e5 _ fun σ2 S2 l2 _ _ => ?_
      cases e6
      exact hnx rfl σ2 H1 io1 ⟨S2, T1.less fun b z => l3 b (l2 b z)⟩
structure Wk where
  ws : List W
  on : Option Nat
def Wk.ok (k : Wk) (s : S) : Prop := match k.on with
  | none => True
  | some n => s.G[n]? = some (.lst k.ws)
noncomputable instance (k : Wk) (s : S) : Decidable (k.ok s) := Classical.propDecidable _
def Cn (K : PySem.W.Frag) (mg : Str → Option Value) (k : Wk) (io : List Addr) (M : Addr → Prop) (H : Hp) : Prop := match k.on with
  | none => True
  | some n => ∃ a vs, io[n]? = some a ∧ H a = some (.lst vs) ∧ Rws K mg io M H k.ws vs
theorem cn_of {k : Wk} (S0 : Sim K mg ea io Fr s σ H) (h : k.ok s) : Cn K mg k io (Ms io Fr s σ) H := by
  unfold Wk.ok at h
  unfold Cn
  split at h
  · trivial
  · rename_i n e
    have hn : n < io.length := by rw [S0.g.len]; exact get_lt h
    obtain ⟨o, ho, vs, rfl, r⟩ := S0.g.cell n io[n] _ (by simp [hn]) h
    exact ⟨_, vs, by simp [hn], ho, r⟩
structure ItG (K : PySem.W.Frag) (mg : Str → Option Value) (J : It) (k : Wk) (io : List Addr) (M : Addr → Prop) (H : Hp) : Prop where
  go : ∀ io' M' H', Pers io M H io' M' H' → Cn K mg k io' M' H' → ∀ i, i < k.ws.length → J.go i H'
  stop : ∀ io' M' H', Pers io M H io' M' H' → Cn K mg k io' M' H' → J.stop k.ws.length H'
  yld : ∀ io' M' H', Pers io M H io' M' H' → Cn K mg k io' M' H' → (∀ a, M' a → ∃ o, H' a = some o ∧ Nt o) → ∀ i x H2, J.yld i H' x H2 → ∀ w, k.ws[i]? = some w → (H2 = H' ∧ Rw K mg io' M' H' w x) ∨ ∃ p us ws', H' p = none ∧ x = .ref p ∧ w = .tup ws' ∧ H2 = upd H' p (.tup us) ∧ Rws K mg io' M' H' ws' us
def RefI (K : PySem.W.Frag) (mg : Str → Option Value) (ea : EA) (Wx : WX) (wi : TI) (m : Mo Wk) : Prop := ∀ (σ : L2.St) (H : Hp) (io : List Addr) (Fr : Addr → Prop) (s : S), Sim K mg ea io Fr s σ H → ∀ r s', m s = some (r, s') → ∀ R : It → Hp → Prop,
  (∀ k, r = .ok k → ∀ J H' io', PostS K mg ea io Fr s σ H s' σ io' H' → ItG K mg J k io' (Ms io' Fr s' σ) H' → R J H') → (∀ x, r = .error x → ∀ cls d H' io', PostX K mg ea io Fr s σ H s' σ io' H' x cls d → Wx cls d σ H') → wi σ H R
noncomputable def forL (k : Wk) : List W → (W → Mo Fl) → Mo Fl
  | [], _ => fun s => if k.ok s then some (.ok .nx, s) else none
  | w :: ws, b => fun s => if k.ok s then (bnd (b w) fun f => match f with
    | .nx => forL k ws b
    | .ct => forL k ws b
    | .bk => ret .nx
    | .rt f => ret (.rt f)) s else none
noncomputable def mFor (mi : Mo Wk) (t : W → Mo Unit) (mb : Mo Fl) : Mo Fl := bnd mi fun k => forL k k.ws fun w => bnd (t w) fun _ => mb
theorem drop_get {α : Type} : ∀ {l : List α} {i : Nat} (h : i < l.length), l.drop i = l[i] :: l.drop (i + 1)
  | [], i, h => by simp at h
  | x :: l, 0, _ => by simp
  | x :: l, i + 1, h => by simpa using drop_get (l := l) (i := i) (by simpa using h)
theorem ref_for {wi : TI} {g : TG} {tb : TS} {mi : Mo Wk} {t : W → Mo Unit} {mb : Mo Fl} {l : List Nat} (hi : RefI K mg ea Wx wi mi) (hg : RefG K mg ea g t l) (hb : RefS K mg ea Wx tb mb) : RefS K mg ea Wx (tFor wi g tb) (mFor mi t mb) := by
  intro σ H io Fr s S0 r0 s' e D hnx hbk hct hrt hex
  rcases bnd_some e with ⟨x, e1, rfl⟩ | ⟨kw, s1, e1, e2⟩
  · exact hi σ H io Fr s S0 _ _ e1 _ (fun _ q => by cases q) fun x' q cls d H' io' px => by
      cases q
      exact hex _ rfl cls d σ H' io' px
  · refine hi σ H io Fr s S0 _ _ e1 _ (fun kw' q J H1 io1 px G => ?_) (fun _ q => by cases q)
    cases q
    refine ⟨fun i m σ2 H2 => m = kw.ws.length - i ∧ i ≤ kw.ws.length ∧ ∃ io2 s2, Sim K mg ea io2 Fr s2 σ2 H2 ∧ Stp io (Ms io Fr s σ) Fr H io2 (Ms io2 Fr s2 σ2) H2 ∧ Pers io1 (Ms io1 Fr s1 σ) H1 io2 (Ms io2 Fr s2 σ2) H2 ∧
      (∀ x o, H1 x = some o → ∃ o', H2 x = some o') ∧ forL kw (kw.ws.drop i) (fun w => bnd (t w) fun _ => mb) s2 = some (r0, s'),
      ⟨kw.ws.length, by simp, Nat.zero_le _, io1, s1, px.1, px.2, .refl, fun _ o h => ⟨o, h⟩, by simpa using e2⟩, ?_⟩
    rintro i m σ2 H2 ⟨rfl, hle, io2, s2, S2, T2, P2, tk, e3⟩
    have ck : kw.ok s2 := by
      cases hd : kw.ws.drop i with
      | nil =>
        rw [hd] at e3; unfold forL at e3; split at e3
        · assumption
        · cases e3
      | cons w ws =>
        rw [hd] at e3; unfold forL at e3; split at e3
        · assumption
        · cases e3
    have cn := cn_of S2 ck
    by_cases hlt : i < kw.ws.length
    · refine .inr ⟨G.go _ _ _ P2 cn i hlt, fun σ3 H3 => ∃ io3 s3, Sim K mg ea io3 Fr s3 σ3 H3 ∧ Stp io (Ms io Fr s σ) Fr H io3 (Ms io3 Fr s3 σ3) H3 ∧ Pers io1 (Ms io1 Fr s1 σ) H1 io3 (Ms io3 Fr s3 σ3) H3 ∧
        (∀ x o, H1 x = some o → ∃ o', H3 x = some o') ∧ forL kw (kw.ws.drop (i + 1)) (fun w => bnd (t w) fun _ => mb) s3 = some (r0, s'), fun σ3 H3 ⟨io3, s3, a1, a2, a3, a4, a5⟩ => ⟨kw.ws.length - (i + 1), by omega, rfl, hlt, io3, s3, a1, a2, a3, a4, a5⟩, fun x H3 y => ?_⟩
      rw [drop_get hlt] at e3
      have item : ∃ io3 , Sim K mg ea io3 Fr s2 σ2 H3 ∧ Stp io2 (Ms io2 Fr s2 σ2) Fr H2 io3 (Ms io3 Fr s2 σ2) H3 ∧ Rw K mg io3 (Ms io3 Fr s2 σ2) H3 kw.ws[i] x := by
        rcases G.yld _ _ _ P2 cn (fun a z => S2.trkN z) i x H3 y kw.ws[i] (by simp [hlt]) with ⟨rfl, r⟩ | ⟨p, us, ws', hp, rfl, hw, rfl, r⟩
        · exact ⟨io2, S2, .refl, r⟩
        · obtain ⟨S3, T3⟩ := S2.laid (o := .tup us) hp
          have r' := r.pers T3.p
          refine ⟨io2, S3, T3, ?_⟩
          rw [hw]
          refine .tup (.inl ⟨upd_same, fun z => ?_⟩) r'.1 r'.2
          obtain ⟨u, e⟩ := S2.trk z
          rw [hp] at e; cases e
      obtain ⟨io3, S3, T3, R3⟩ := item
      have T23 := T2.trans T3
      have P3 := P2.trans T3.p tk
      have tk3 : ∀ x o, H1 x = some o → ∃ o', H3 x = some o' := fun x o h => let ⟨o', h'⟩ := tk x o h; T3.trk x o' h'
      unfold forL at e3
      rw [if_pos ck] at e3
      have body : ∀ {rb : Except Ex Fl} {s4 : S}, (bnd (t kw.ws[i]) fun _ => mb) s2 = some (rb, s4) → ∀ D' : Ends,
          (∀ f, rb = .ok f → (f = .nx → ∀ σ4 H4 io4, Sim K mg ea io4 Fr s4 σ4 H4 → Stp io3 (Ms io3 Fr s2 σ2) Fr H3 io4 (Ms io4 Fr s4 σ4) H4 → D'.nx σ4 H4) ∧ (f = .bk → ∀ σ4 H4 io4, Sim K mg ea io4 Fr s4 σ4 H4 → Stp io3 (Ms io3 Fr s2 σ2) Fr H3 io4 (Ms io4 Fr s4 σ4) H4 → D'.bk σ4 H4) ∧
            (f = .ct → ∀ σ4 H4 io4, Sim K mg ea io4 Fr s4 σ4 H4 → Stp io3 (Ms io3 Fr s2 σ2) Fr H3 io4 (Ms io4 Fr s4 σ4) H4 → D'.ct σ4 H4) ∧ (∀ u, f = .rt u → ∀ v H4 io4, PostF K mg io3 (Ms io3 Fr s2 σ2) Fr H3 s4.G io4 H4 u v → D'.rt v H4)) →
          (∀ xx, rb = .error xx → ∀ cls d σ4 H4 io4, Sim K mg ea io4 Fr s4 σ4 H4 → Stp io3 (Ms io3 Fr s2 σ2) Fr H3 io4 (Ms io4 Fr s4 σ4) H4 → ExR K mg io4 (Ms io4 Fr s4 σ4) H4 xx cls d → Wx cls d σ4 H4) → g x σ2 H3 fun σ5 H5 => tb D' σ5 H5 := by
        intro rb s4 eb D' hok hxx
        rcases bnd_some eb with ⟨z, e5, rfl⟩ | ⟨_, s5, e5, e6⟩
        · have := hg.ne _ _ _ _ e5
          cases this
        · refine hg.go σ2 H3 io3 Fr s2 _ x S3 R3 _ _ e5 _ fun σ5 S5 l5 _ _ => ?_
          have T5 : Stp io3 (Ms io3 Fr s2 σ2) Fr H3 io3 (Ms io3 Fr s5 σ5) H3 := Stp.refl.less l5
          exact hb σ5 H3 io3 Fr s5 S5 _ _ e6 D' (fun q σ4 H4 io4 p => (hok _ q).1 rfl σ4 H4 io4 p.1 (T5.trans p.2)) (fun q σ4 H4 io4 p => (hok _ q).2.1 rfl σ4 H4 io4 p.1 (T5.trans p.2))
            (fun q σ4 H4 io4 p => (hok _ q).2.2.1 rfl σ4 H4 io4 p.1 (T5.trans p.2)) (fun u q v H4 io4 p => (hok _ q).2.2.2 u rfl v H4 io4 (p.trans T5)) fun xx q cls d σ4 H4 io4 p => hxx xx q cls d σ4 H4 io4 p.1 (T5.trans p.2.1) p.2.2
      rcases bnd_some e3 with ⟨z, e4, rfl⟩ | ⟨f, s4, e4, e5⟩
      · exact body e4 _ (fun _ q => by cases q) fun xx q cls d σ4 H4 io4 a1 a2 a3 => by
          cases q
          exact hex _ rfl cls d σ4 H4 io4 ⟨a1, T23.trans a2, a3⟩
      · refine body e4 _ (fun f' q => ?_) fun _ q => by cases q
        cases q
        have again : forL kw (kw.ws.drop (i + 1)) (fun w => bnd (t w) fun _ => mb) s4 = some (r0, s') → ∀ σ4 H4 io4, Sim K mg ea io4 Fr s4 σ4 H4 → Stp io3 (Ms io3 Fr s2 σ2) Fr H3 io4 (Ms io4 Fr s4 σ4) H4 →
            ∃ io3 s3, Sim K mg ea io3 Fr s3 σ4 H4 ∧ Stp io (Ms io Fr s σ) Fr H io3 (Ms io3 Fr s3 σ4) H4 ∧ Pers io1 (Ms io1 Fr s1 σ) H1 io3 (Ms io3 Fr s3 σ4) H4 ∧ (∀ x o, H1 x = some o → ∃ o', H4 x = some o') ∧ forL kw (kw.ws.drop (i + 1)) (fun w => bnd (t w) fun _ => mb) s3 = some (r0, s') :=
          fun e6 σ4 H4 io4 a1 a2 => ⟨io4, s4, a1, T23.trans a2, P3.trans a2.p tk3, fun x o h => let ⟨o', h'⟩ := tk3 x o h; a2.trk x o' h', e6⟩
        refine ⟨fun q => ?_, fun q => ?_, fun q => ?_, fun u q => ?_⟩
        · subst q; exact again e5
        · subst q
          intro σ4 H4 io4 a1 a2
          cases e5
          exact hnx rfl σ4 H4 io4 ⟨a1, T23.trans a2⟩
        · subst q; exact again e5
        · subst q
          intro v H4 io4 p
          cases e5
          exact hrt _ rfl v H4 io4 (p.trans T23)
    · have hi' : i = kw.ws.length := by omega
      subst hi'
      rw [List.drop_length] at e3
      unfold forL at e3
      rw [if_pos ck] at e3
      cases e3
      exact .inl ⟨G.stop _ _ _ P2 cn, hnx rfl σ2 H2 io2 ⟨S2, T2⟩⟩
end
end Z
set_option Elab.async false
set_option linter.all false
set_option maxRecDepth 100000
namespace Z
open PySem PySem.Spec PyProof.Rows L2
section
variable {K : PySem.W.Frag} {mg : Str → Option Value} {ea : EA} {io io' : List Addr} {Fr Fr' : Addr → Prop} {s s' s2 : S} {σ σ' : L2.St} {H H' : Hp} {w : W} {v : V} {c : Cell} {o : HO} {a p : Addr} {ws : List W} {vs : List V} {M : Addr → Prop}
variable {Wx : WX}
theorem itg_list (h : H a = some (.lst vs)) (hn : ¬ M a) (r : Rws K mg io M H ws vs) : ItG K mg (Itl K a) ⟨ws, none⟩ io M H where
  go := fun io' M' H' P _ i hi => ⟨vs, vs[i]'(by rw [← r.1]; exact hi), SqL.of (P.keep _ _ h hn), by simp [← r.1, hi]⟩
  stop := fun io' M' H' P _ => ⟨vs, SqL.of (P.keep _ _ h hn), by rw [r.1]; exact Nat.le_refl _⟩
  yld := fun io' M' H' P _ _ i x H2 y w hw => .inl ⟨y.1, (r.2 i w x hw (y.2 vs (SqL.of (P.keep _ _ h hn)))).pers P⟩
theorem itg_frl (h : (Rd H a (.lst vs) ∧ ¬ M a) ∨ KL K a vs) (r : Rws K mg io M H ws vs) : ItG K mg (Itl K a) ⟨ws, none⟩ io M H := by
  have q : ∀ io' M' H', Pers io M H io' M' H' → SqL K H' a vs := fun io' M' H' P => h.imp (fun z => P.rd z.1 z.2) id
  exact {
           go := fun io' M' H' P _ i hi => ⟨vs, vs[i]'(by rw [← r.1]; exact hi), q _ _ _ P, by simp [← r.1, hi]⟩
           stop := fun io' M' H' P _ => ⟨vs, q _ _ _ P, by rw [r.1]; exact Nat.le_refl _⟩
           yld := fun io' M' H' P _ _ i x H2 y w hw => .inl ⟨y.1, (r.2 i w x hw (y.2 vs (q _ _ _ P))).pers P⟩ }
theorem itg_tup (h : (H a = some (.tup vs) ∧ ¬ M a) ∨ (KT K a vs ∧ vs = [])) (r : Rws K mg io M H ws vs) : ItG K mg (Itt K a) ⟨ws, none⟩ io M H := by
  have q : ∀ io' M' H', Pers io M H io' M' H' → SqT K H' a vs := fun io' M' H' P => h.elim (fun z => SqT.of (P.keep _ _ z.1 z.2)) fun z => .inr z.1
  exact {
           go := fun io' M' H' P _ i hi => ⟨vs, vs[i]'(by rw [← r.1]; exact hi), q _ _ _ P, by simp [← r.1, hi]⟩
           stop := fun io' M' H' P _ => ⟨vs, q _ _ _ P, by rw [r.1]; exact Nat.le_refl _⟩
           yld := fun io' M' H' P _ _ i x H2 y w hw => .inl ⟨y.1, (r.2 i w x hw (y.2 vs (q _ _ _ P))).pers P⟩ }
theorem itg_cell {n : Nat} (h0 : io[n]? = some a) : ItG K mg (Itl K a) ⟨ws, some n⟩ io M H := by
  have q : ∀ io' M' H', Pers io M H io' M' H' → Cn K mg ⟨ws, some n⟩ io' M' H' → ∃ vs, H' a = some (.lst vs) ∧ Rws K mg io' M' H' ws vs := fun io' M' H' P c => by
    obtain ⟨a', vs, h1, h2, h3⟩ := c
    rw [P.ext _ _ h0] at h1
    cases h1
    exact ⟨vs, h2, h3⟩
  exact {
           go := fun io' M' H' P c i hi => by
             obtain ⟨vs, h2, h3⟩ := q _ _ _ P c
             exact ⟨vs, vs[i]'(by rw [← h3.1]; exact hi), SqL.of h2, by simp [← h3.1, hi]⟩
           stop := fun io' M' H' P c => by
             obtain ⟨vs, h2, h3⟩ := q _ _ _ P c
             exact ⟨vs, SqL.of h2, by rw [h3.1]; exact Nat.le_refl _⟩
           yld := fun io' M' H' P c _ i x H2 y w hw => by
             obtain ⟨vs, h2, h3⟩ := q _ _ _ P c
             exact .inl ⟨y.1, h3.2 i w x hw (y.2 vs (SqL.of h2))⟩ }
def rngW (lo : Int) (n : Nat) : List W := (List.range n).map fun (k : Nat) => W.int (lo + (k : Int))
theorem itg_rng {lo : Int} {n : Nat} : ItG K mg (Itr lo n) ⟨rngW lo n, none⟩ io M H where
  go := fun io' M' H' P _ i hi => by
    show i < n
    simpa [rngW] using hi
  stop := fun io' M' H' P _ => by
    show n ≤ (rngW lo n).length
    simp [rngW]
  yld := fun io' M' H' P _ _ i x H2 y w hw => by
    obtain ⟨y1, rfl⟩ := y
    refine .inl ⟨y1, ?_⟩
    have hi := get_lt hw
    simp only [rngW, List.length_map, List.length_range] at hi
    simp only [rngW, List.getElem?_map, List.getElem?_range hi, Option.map_some, Option.some.injEq] at hw
    subst hw
    exact .int _
def walkOf (s : S) : W → Option Wk
  | .ref n => match s.G[n]? with
    | some (.lst ws) => some ⟨ws, some n⟩
    | _ => none
  | w => (seqOf w).map fun ws => ⟨ws, none⟩
def mIter (m : Mo RV) : Mo Wk := bnd m fun x => bnd (freeze (settle x)) fun w s => (walkOf s w).map fun k => (.ok k, s)
theorem ref_iter {tl : TE} {m : Mo RV} (h : RefE K mg ea Wx tl m) : RefI K mg ea Wx (fun σ H R => iList K tl σ H R ∨ iTup K tl σ H R) (mIter m) := by
  intro σ H io Fr s S0 r0 s' e R hok hex
  rcases bnd_some e with ⟨x, e1, rfl⟩ | ⟨x, s1, e1, e2⟩
  · exact .inl (h σ H io Fr s S0 _ _ e1 _ (fun _ q => by cases q) fun x' q cls d H' io' px => by
      cases q
      exact hex _ rfl cls d H' io' px)
  · have key : ∀ {Q : VK}, (∀ w v H1 io1, (walkOf s' w).map (fun k => (Except.ok k, s')) = some (r0, s') → Sim K mg ea io1 Fr s' σ H1 → Stp io (Ms io Fr s σ) Fr H io1 (Ms io1 Fr s' σ) H1 → Rw K mg io1 (Ms io1 Fr s' σ) H1 w v → (∃ s4, freeze (settle x) s1 = some (.ok w, s4)) → Q v H1) → tl σ H Q := by
      intro Q hQ
      refine h σ H io Fr s S0 _ _ e1 _ (fun x' q v H1 io1 px => ?_) (fun _ q => by cases q)
      cases q
      obtain ⟨S1, T1, R1⟩ := px.settled
      rcases bnd_some e2 with ⟨z, e3, _⟩ | ⟨w, s3, e3, e4⟩
      · obtain ⟨_, _, _, _, q, _⟩ := freeze_ok S1 R1 e3
        cases q
      · obtain ⟨_, l3, S3, w', q, R3⟩ := freeze_ok S1 R1 e3
        cases q
        obtain ⟨k, h1, h2⟩ := Option.map_eq_some_iff.mp e4
        cases h2
        exact hQ w v H1 io1 (by rw [h1]; rfl) S3 (T1.less l3) R3 ⟨_, e3⟩
    rcases bnd_some e2 with ⟨z, e3, rfl⟩ | ⟨w0, s3, e3, e4⟩
    · refine .inl (key fun w v H1 io1 k S1 T1 R1 ⟨s4, q⟩ => ?_)
      rw [e3] at q; cases q
    · cases w0 with
      | tup ws =>
        refine .inr (key fun w v H1 io1 k S1 T1 R1 ⟨s4, q⟩ => ?_)
        rw [e3] at q
        cases q
        cases k
        cases R1 with
        | tup h1 h2 h3 => exact ⟨_, rfl, ⟨_, h1.elim (fun z => SqT.of z.1) fun z => .inr z.1⟩, hok _ rfl _ _ _ ⟨S1, T1⟩ (itg_tup h1 ⟨h2, h3⟩)⟩
      | lst ws =>
        refine .inl (key fun w v H1 io1 k S1 T1 R1 ⟨s4, q⟩ => ?_)
        rw [e3] at q
        cases q
        cases k
        cases R1 with
        | lst h1 h2 h3 h4 => exact ⟨_, rfl, ⟨_, SqL.of h1⟩, hok _ rfl _ _ _ ⟨S1, T1⟩ (itg_list h1 h2 ⟨h3, h4⟩)⟩
      | frl ws =>
        refine .inl (key fun w v H1 io1 k S1 T1 R1 ⟨s4, q⟩ => ?_)
        rw [e3] at q
        cases q
        cases k
        cases R1 with
        | frl h1 h3 h4 => exact ⟨_, rfl, ⟨_, h1.imp (fun z => z.1) id⟩, hok _ rfl _ _ _ ⟨S1, T1⟩ (itg_frl h1 ⟨h3, h4⟩)⟩
      | ref n =>
        refine .inl (key fun w v H1 io1 k S1 T1 R1 ⟨s4, q⟩ => ?_)
        rw [e3] at q
        cases q
        obtain ⟨kk, h1, h2⟩ := Option.map_eq_some_iff.mp k
        cases h2
        unfold walkOf at h1
        simp only at h1
        split at h1
        · rename_i ws hG
          cases h1
          cases R1 with
          | ref hn =>
            obtain ⟨o, ho, vs, rfl, r⟩ := S1.g.cell n _ _ hn hG
            exact ⟨_, rfl, ⟨_, SqL.of ho⟩, hok _ rfl _ _ _ ⟨S1, T1⟩ (itg_cell hn)⟩
        · cases h1
      | _ => cases e4
def Rk (j : Int) : Prop := -(2 ^ 62) ≤ j ∧ j < 2 ^ 62
noncomputable instance (j : Int) : Decidable (Rk j) := Classical.propDecidable _
def Lk (j : Int) : Prop := 0 ≤ j ∧ j < 2 ^ 63
noncomputable instance (j : Int) : Decidable (Lk j) := Classical.propDecidable _
noncomputable def mRng1 (ms : Mo (List RV)) : Mo Wk := bnd ms fun xs => bnd (lookAll xs) fun ws => match ws with
  | [.int j] => if Rk j then ret ⟨rngW 0 j.toNat, none⟩ else stk
  | _ => stk
noncomputable def mRng2 (ms : Mo (List RV)) : Mo Wk := bnd ms fun xs => bnd (lookAll xs) fun ws => match ws with
  | [.int i, .int j] => if Rk i ∧ Rk j then ret ⟨rngW i (j - i).toNat, none⟩ else stk
  | _ => stk
theorem ref_rng1 {ta : TA} {ms : Mo (List RV)} (h : RefA K mg ea Wx ta ms) : RefI K mg ea Wx (iRng1 ta) (mRng1 ms) := by
  intro σ H io Fr s S0 r0 s' e R hok hex
  refine arg2 h S0 e hex fun xs vs s1 H1 io1 e2 px R1 => ?_
  rcases bnd_some e2 with ⟨x, e3, rfl⟩ | ⟨ws, s2, e3, e4⟩
  · obtain ⟨_, _, q, _⟩ := lookAll_ok px.1 R1 e3
    cases q
  · obtain ⟨rfl, ws', q, r2⟩ := lookAll_ok px.1 R1 e3
    cases q
    split at e4
    · split at e4
      · rename_i hz
        cases e4
        obtain ⟨v, rfl, rv⟩ := p1 r2
        have := rv.int
        subst this
        exact ⟨_, rfl, hz.1, hz.2, hok _ rfl _ _ _ px itg_rng⟩
      · cases e4
    · cases e4
theorem ref_rng2 {ta : TA} {ms : Mo (List RV)} (h : RefA K mg ea Wx ta ms) : RefI K mg ea Wx (iRng2 ta) (mRng2 ms) := by
  intro σ H io Fr s S0 r0 s' e R hok hex
  refine arg2 h S0 e hex fun xs vs s1 H1 io1 e2 px R1 => ?_
  rcases bnd_some e2 with ⟨x, e3, rfl⟩ | ⟨ws, s2, e3, e4⟩
  · obtain ⟨_, _, q, _⟩ := lookAll_ok px.1 R1 e3
    cases q
  · obtain ⟨rfl, ws', q, r2⟩ := lookAll_ok px.1 R1 e3
    cases q
    split at e4
    · split at e4
      · rename_i hz
        cases e4
        obtain ⟨v, v', rfl, rv, rv'⟩ := p2 r2
        have := rv.int
        subst this
        have := rv'.int
        subst this
        exact ⟨_, _, rfl, ⟨hz.1.1, hz.1.2, hz.2.1, hz.2.2⟩, hok _ rfl _ _ _ px itg_rng⟩
      · cases e4
    · cases e4
variable (K mg ea Wx)
def tOf (m : Mo RV) : TE := fun σ H Q => ∃ io Fr s r s', Sim K mg ea io Fr s σ H ∧ m s = some (r, s') ∧ (∀ x, r = .ok x → ∀ v H' io', PostE K mg ea io Fr s σ H s' io' H' x v → Q v H') ∧
  (∀ x, r = .error x → ∀ cls d H' io', PostX K mg ea io Fr s σ H s' σ io' H' x cls d → Wx cls d σ H')
def ttOf (m : Mo Bool) : TT := fun σ H Q => ∃ io Fr s r s', Sim K mg ea io Fr s σ H ∧ m s = some (r, s') ∧ (∀ b, r = .ok b → ∀ H' io', PostS K mg ea io Fr s σ H s' σ io' H' → Q b H') ∧
  (∀ x, r = .error x → ∀ cls d H' io', PostX K mg ea io Fr s σ H s' σ io' H' x cls d → Wx cls d σ H')
def gOf (t : W → Mo Unit) (l : List Nat) : TG := fun v σ H Q => ∃ io Fr s w r s', Sim K mg ea io Fr s σ H ∧ Rw K mg io (Ms io Fr s σ) H w v ∧ t w s = some (r, s') ∧
  (∀ σ', Sim K mg ea io Fr s' σ' H → (∀ b, Ms io Fr s' σ' b → Ms io Fr s σ b) → σ'.length = σ.length → (∀ j, j ∉ l → σ'[j]? = σ[j]?) → Q σ' H)
variable {K mg ea Wx}
theorem ref_tOf (m : Mo RV) : RefE K mg ea Wx (tOf K mg ea Wx m) m := fun σ H io Fr s S0 r s' e Q h1 h2 => ⟨io, Fr, s, r, s', S0, e, h1, h2⟩
theorem ref_ttOf (m : Mo Bool) : RefT K mg ea Wx (ttOf K mg ea Wx m) m := fun σ H io Fr s S0 r s' e Q h1 h2 => ⟨io, Fr, s, r, s', S0, e, h1, h2⟩
theorem ref_gOf {t : W → Mo Unit} {l : List Nat} (ne : ∀ w s r s', t w s = some (r, s') → r = .ok ()) : RefG K mg ea (gOf K mg ea t l) t l := ⟨ne, fun σ H io Fr s w v S0 R r s' e Q h => ⟨io, Fr, s, w, r, s', S0, R, e, h⟩⟩
theorem Sim.updFr {o' : HO} (x : Sim K mg ea io Fr s σ H) (hp : Fr p) (ho : H p = some o) (hN : Nt o' := by intro _ z; cases z) : Sim K mg ea io Fr s σ (upd H p o') := by
  have ne : ∀ b, ¬ Ms io Fr s σ b → b ≠ p := fun b h z => by
    subst z
    exact h (.inr (.inl hp))
  have q : Pers io (Ms io Fr s σ) H io (Ms io Fr s σ) (upd H p o') := ⟨fun b u e h => by rw [upd_ne (ne b h)]; exact e, fun b z => .inl z, fun _ _ e => e⟩
  have nio : ∀ b ∈ io, b ≠ p := fun b hb z => by
    subst z
    exact x.g.dj b hb (.inl hp)
  refine ⟨x.len, ⟨x.g.len, fun n b c h1 h2 => ?_, x.g.nd, x.g.dj, fun b z => ?_⟩, fun i w e => ?_, fun i c e => ?_, x.dist, fun i e k => let ⟨h1, h2⟩ := x.exc i e k; ⟨h1, h2.pers q⟩⟩
  · obtain ⟨u, e, r⟩ := x.g.cell n b c h1 h2
    exact ⟨u, by rw [upd_ne (nio b (List.mem_of_getElem? h1))]; exact e, r.pers q⟩
  · by_cases h : b = p
    · exact ⟨o', by rw [h, upd_same], hN⟩
    · obtain ⟨u, e, n⟩ := x.g.fr b z
      exact ⟨u, by rw [upd_ne h]; exact e, n⟩
  · obtain ⟨v, h1, h2⟩ := x.val i w e
    exact ⟨v, h1, h2.pers q⟩
  · obtain ⟨b, u, h1, h2, h3, h4⟩ := x.own i c e
    exact ⟨b, u, h1, by rw [upd_ne (fun z => by subst z; exact h4 hp)]; exact h2, h3.pers q, h4⟩
theorem Stp.updNew {M M' : Addr → Prop} {o' : HO} (T : Stp io M Fr H io' M' H') (hp : H p = none) (hf : ¬ Fr p) (h' : H' p = some o) : Stp io M Fr H io' M' (upd H' p o') where
  p := ⟨fun b u e h => by rw [upd_ne (ne_of_none e hp)]; exact T.p.keep b u e h, T.p.new, T.p.ext⟩
  fr := fun b z => by rw [upd_ne (fun e => by subst e; exact hf z)]; exact T.fr b z
  trk := fun b u e => by rw [upd_ne (ne_of_none e hp)]; exact T.trk b u e
def wipeR (r : List SV) : List Nat → List SV
  | [] => r
  | v :: vs => (wipeR r vs).set v .non
def wipeS (vs : List Nat) (s : S) : S := { s with r := wipeR s.r vs }
theorem wipeR_len (r : List SV) : ∀ l : List Nat, (wipeR r l).length = r.length
  | [] => rfl
  | v :: vs => by unfold wipeR; rw [List.length_set, wipeR_len r vs]
theorem wipeR_get {r : List SV} {i : Nat} : ∀ {l : List Nat}, (i ∉ l → (wipeR r l)[i]? = r[i]?) ∧ (i ∈ l → (wipeR r l)[i]? = some .non ∨ (wipeR r l)[i]? = none)
  | [] => ⟨fun _ => rfl, fun h => by simp at h⟩
  | v :: vs => by
    obtain ⟨i1, i2⟩ := wipeR_get (r := r) (i := i) (l := vs)
    refine ⟨fun h => ?_, fun h => ?_⟩
    · simp only [List.mem_cons, not_or] at h
      unfold wipeR
      rw [List.getElem?_set_ne (fun z => h.1 z.symm)]
      exact i1 h.2
    · unfold wipeR
      by_cases e : v = i
      · subst e
        rcases Nat.lt_or_ge v (wipeR r vs).length with q | q
        · exact .inl (List.getElem?_set_self q)
        · exact .inr (List.getElem?_eq_none (by simpa using q))
      · rw [List.getElem?_set_ne e]
        rcases List.mem_cons.mp h with z | z
        · exact absurd z.symm e
        · exact i2 z
theorem wipe_get {σ : L2.St} {i : Nat} : ∀ {l : List Nat}, (i ∉ l → (wipe σ l)[i]? = σ[i]?) ∧ (i ∈ l → i < σ.length → (wipe σ l)[i]? = some none)
  | [] => ⟨fun _ => rfl, fun h => by simp at h⟩
  | v :: vs => by
    obtain ⟨i1, i2⟩ := wipe_get (σ := σ) (i := i) (l := vs)
    refine ⟨fun h => ?_, fun h hl => ?_⟩
    · simp only [List.mem_cons, not_or] at h
      unfold wipe
      rw [List.getElem?_set_ne (fun z => h.1 z.symm)]
      exact i1 h.2
    · unfold wipe
      by_cases e : v = i
      · subst e
        exact List.getElem?_set_self (by rw [wipe_length]; exact hl)
      · rw [List.getElem?_set_ne e]
        rcases List.mem_cons.mp h with z | z
        · exact absurd z.symm e
        · exact i2 z hl
theorem wipe_eq {σ σ' : L2.St} {l : List Nat} (hl : σ'.length = σ.length) (h : ∀ j, j ∉ l → σ'[j]? = σ[j]?) : wipe σ' l = wipe σ l := by
  apply List.ext_getElem?
  intro j
  by_cases hj : j ∈ l
  · rcases Nat.lt_or_ge j σ.length with q | q
    · rw [(wipe_get (σ := σ')).2 hj (by rw [hl]; exact q), (wipe_get (σ := σ)).2 hj q]
    · rw [List.getElem?_eq_none (by rw [wipe_length, hl]; exact q), List.getElem?_eq_none (by rw [wipe_length]; exact q)]
  · rw [(wipe_get (σ := σ')).1 hj, (wipe_get (σ := σ)).1 hj, h j hj]
theorem wipe_wipe {σ : L2.St} {l : List Nat} : wipe (wipe σ l) l = wipe σ l := wipe_eq (wipe_length σ l) fun j hj => (wipe_get (σ := σ)).1 hj
theorem Sim.wiped {l : List Nat} (x : Sim K mg ea io Fr s σ H) (hl : σ'.length = σ.length) (h : ∀ j, j ∉ l → σ'[j]? = σ[j]?) : Sim K mg ea io Fr (wipeS l s) σ' H ∧ (∀ b, Ms io Fr (wipeS l s) σ' b → Ms io Fr s σ b) := by
  refine x.sub (by rw [wipeR_len, x.len, hl]) fun i => ?_
  by_cases hi : i ∈ l
  · exact .inr ((wipeR_get (r := s.r)).2 hi)
  · exact .inl ⟨(wipeR_get (r := s.r)).1 hi, h i hi⟩
noncomputable def lcL (vs : List Nat) (t : W → Mo Unit) (tt : Mo Bool) (me : Mo RV) (k : Wk) : List W → List W → Mo RV
  | [], acc => fun s => if k.ok s then some (.ok (.own (.lst acc)), s) else none
  | w :: ws, acc => fun s => if k.ok s then (match (bnd (t w) fun _ => tt) s with
    | some (.ok true, s1) => match (bnd me fun x => freeze (settle x)) s1 with
      | some (.ok y, s2) => if acc.length < sz then lcL vs t tt me k ws (acc ++ [y]) (wipeS vs s2) else none
      | _ => none
    | some (.ok false, s1) => lcL vs t tt me k ws acc (wipeS vs s1)
    | _ => none) else none
noncomputable def mLc (vs : List Nat) (mi : Mo Wk) (t : W → Mo Unit) (tt : Mo Bool) (me : Mo RV) : Mo RV := bnd mi fun k => fun s => lcL vs t tt me k k.ws [] (wipeS vs s)
def W0 : WX := fun _ _ _ _ => False
theorem ref_lc {wi : TI} {g : TG} {tt : TT} {te : TE} {mi : Mo Wk} {t : W → Mo Unit} {mt : Mo Bool} {me : Mo RV} {l vs : List Nat} (hi : RefI K mg ea Wx wi mi) (hg : RefG K mg ea g t l) (hl : ∀ i ∈ l, i ∈ vs) (ht : RefT K mg ea W0 tt mt) (he : RefE K mg ea W0 te me) :
    RefE K mg ea Wx (tLc wi g tt te vs) (mLc vs mi t mt me) := by
  intro σ H io Fr s S0 r0 s' e Q hok hex
  rcases bnd_some e with ⟨x, e1, rfl⟩ | ⟨kw, s1, e1, e2⟩
  · exact hi σ H io Fr s S0 _ _ e1 _ (fun _ q => by cases q) fun x' q cls d H' io' px => by
      cases q
      exact hex _ rfl cls d H' io' px
  · refine hi σ H io Fr s S0 _ _ e1 _ (fun kw' q J H1 io1 px G => ?_) (fun _ q => by cases q)
    cases q
    intro D hD
    obtain ⟨SD, TD, nD⟩ := px.1.alloc (o := .lst []) hD
    have nFD : ¬ Fr D := fun z => nD (.inl z)
    obtain ⟨SW, lW⟩ := SD.wiped (l := vs) (σ' := wipe σ vs) (wipe_length σ vs) fun j hj => (wipe_get (σ := σ)).1 hj
    have TW := TD.less lW
    refine ⟨fun i m H2 => m = kw.ws.length - i ∧ i ≤ kw.ws.length ∧ ∃ io2 s2 acc av, Sim K mg ea io2 (pls Fr D) s2 (wipe σ vs) H2 ∧ Stp io1 (Ms io1 Fr s1 σ) Fr H1 io2 (Ms io2 (pls Fr D) s2 (wipe σ vs)) H2 ∧
      H2 D = some (.lst av) ∧ Rws K mg io2 (Ms io2 (pls Fr D) s2 (wipe σ vs)) H2 acc av ∧ (∀ j, j ∈ vs → s2.r[j]? = some .non ∨ s2.r[j]? = none) ∧ lcL vs t mt me kw (kw.ws.drop i) acc s2 = some (r0, s'),
      ⟨kw.ws.length, by simp, Nat.zero_le _, io1, wipeS vs s1, [], [], SW, TW, upd_same, Rws.nil, fun j hj => (wipeR_get (r := s1.r)).2 hj, by simpa using e2⟩, ?_⟩
    rintro i m H2 ⟨rfl, hle, io2, s2, acc, av, S2, T2, hA, RA, wn, e3⟩
    have ck : kw.ok s2 := by
      cases hd : kw.ws.drop i with
      | nil =>
        rw [hd] at e3; unfold lcL at e3; split at e3
        · assumption
        · cases e3
      | cons w ws =>
        rw [hd] at e3; unfold lcL at e3; split at e3
        · assumption
        · cases e3
    have cn := cn_of S2 ck
    by_cases hlt : i < kw.ws.length
    · refine .inr ⟨G.go _ _ _ T2.p cn i hlt, fun H3 => ∃ io3 s3 acc av, Sim K mg ea io3 (pls Fr D) s3 (wipe σ vs) H3 ∧ Stp io1 (Ms io1 Fr s1 σ) Fr H1 io3 (Ms io3 (pls Fr D) s3 (wipe σ vs)) H3 ∧
        H3 D = some (.lst av) ∧ Rws K mg io3 (Ms io3 (pls Fr D) s3 (wipe σ vs)) H3 acc av ∧ (∀ j, j ∈ vs → s3.r[j]? = some .non ∨ s3.r[j]? = none) ∧ lcL vs t mt me kw (kw.ws.drop (i + 1)) acc s3 = some (r0, s'),
        fun H3 ⟨io3, s3, acc, av, a1, a2, a3, a4, a6, a5⟩ => ⟨kw.ws.length - (i + 1), by omega, rfl, hlt, io3, s3, acc, av, a1, a2, a3, a4, a6, a5⟩, fun x H3 y => ?_⟩
      rw [drop_get hlt] at e3
      have item : ∃ io3, Sim K mg ea io3 (pls Fr D) s2 (wipe σ vs) H3 ∧ Stp io2 (Ms io2 (pls Fr D) s2 (wipe σ vs)) (pls Fr D) H2 io3 (Ms io3 (pls Fr D) s2 (wipe σ vs)) H3 ∧ Rw K mg io3 (Ms io3 (pls Fr D) s2 (wipe σ vs)) H3 kw.ws[i] x := by
        rcases G.yld _ _ _ T2.p cn (fun a z => S2.trkN z) i x H3 y kw.ws[i] (by simp [hlt]) with ⟨rfl, r⟩ | ⟨p, us, ws', hp, rfl, hw, rfl, r⟩
        · exact ⟨io2, S2, .refl, r⟩
        · obtain ⟨S3, T3⟩ := S2.laid (o := .tup us) hp
          have r' := r.pers T3.p
          refine ⟨io2, S3, T3, ?_⟩
          rw [hw]
          refine .tup (.inl ⟨upd_same, fun z => ?_⟩) r'.1 r'.2
          obtain ⟨u, e⟩ := S2.trk z
          rw [hp] at e; cases e
      obtain ⟨io3, S3, T3, R3⟩ := item
      have T23 := T2.trans (T3.frless pls.sub)
      have hA3 : H3 D = some (.lst av) := (T3.fr D (.inr rfl)).trans hA
      have RA3 := RA.pers T3.p
      unfold lcL at e3
      rw [if_pos ck] at e3
      cases ex : (bnd (t kw.ws[i]) fun _ => mt) s2 with
      | none => rw [ex] at e3; cases e3
      | some pr =>
        obtain ⟨rb, s4⟩ := pr
        rw [ex] at e3
        rcases bnd_some ex with ⟨z, e5, rfl⟩ | ⟨_, s5, e5, e6⟩
        · have := hg.ne _ _ _ _ e5
          cases this
        · refine hg.go (wipe σ vs) H3 io3 (pls Fr D) s2 _ x S3 R3 _ _ e5 _ fun σ5 S5 l5 n5 k5 => ?_
          have k5' : ∀ j, j ∉ vs → σ5[j]? = (wipe σ vs)[j]? := fun j hj => k5 j fun z => hj (hl j z)
          have we : wipe σ5 vs = wipe σ vs := by rw [wipe_eq n5 k5', wipe_wipe]
          refine ⟨we, ?_⟩
          have T5 : Stp io3 (Ms io3 (pls Fr D) s2 (wipe σ vs)) (pls Fr D) H3 io3 (Ms io3 (pls Fr D) s5 σ5) H3 := Stp.refl.less l5
          have back : ∀ {s6 : S} {H6 : Hp} {io6 : List Addr}, Sim K mg ea io6 (pls Fr D) s6 σ5 H6 → Sim K mg ea io6 (pls Fr D) (wipeS vs s6) (wipe σ vs) H6 ∧ (∀ b, Ms io6 (pls Fr D) (wipeS vs s6) (wipe σ vs) b → Ms io6 (pls Fr D) s6 σ5 b) := fun S6 =>
            S6.wiped (by rw [n5]) fun j hj => (k5' j hj).symm
          cases rb with
          | error z => cases e3
          | ok b =>
            refine ht σ5 H3 io3 (pls Fr D) s5 S5 _ _ e6 _ (fun b' q H6 io6 p6 => ?_) fun z q => by cases q
            cases q
            have T36 := T23.trans ((T5.trans p6.2).frless pls.sub)
            have hA6 : H6 D = some (.lst av) := (p6.2.fr D (.inr rfl)).trans hA3
            have RA6 := (RA3.pers T5.p).pers p6.2.p
            cases b with
            | false =>
              rw [if_neg Bool.false_ne_true]
              obtain ⟨S7, l7⟩ := back p6.1
              exact ⟨io6, _, acc, av, S7, T36.less l7, hA6, RA6.pers (.less l7), fun j hj => (wipeR_get (r := s4.r)).2 hj, e3⟩
            | true =>
              rw [if_pos rfl]
              simp only at e3
              cases ey : (bnd me fun x => freeze (settle x)) s4 with
              | none => rw [ey] at e3; cases e3
              | some pr2 =>
                obtain ⟨ry, s7⟩ := pr2
                rw [ey] at e3
                cases ry with
                | error z => cases e3
                | ok yv =>
                  simp only at e3
                  split at e3
                  · rename_i hz
                    refine one2 he p6.1 ey (fun x q => by cases q) fun xr v s8 H8 io8 e8 p8 => ?_
                    obtain ⟨S8, T8, R8⟩ := p8.settled
                    obtain ⟨_, l9, S9, w', q, R9⟩ := freeze_ok S8 R8 e8
                    cases q
                    have hA8 : H8 D = some (.lst av) := (T8.fr D (.inr rfl)).trans hA6
                    have RA8 := (RA6.pers T8.p).pers (.less l9)
                    refine ⟨av, hA8, by rw [sz_eq, ← RA8.1]; exact hz, ?_⟩
                    have S10 := S9.updFr (o' := .lst (av ++ [v])) (.inr rfl) hA8
                    obtain ⟨S11, l11⟩ := back S10
                    have T11 : Stp io1 (Ms io1 Fr s1 σ) Fr H1 io8 (Ms io8 (pls Fr D) (wipeS vs s7) (wipe σ vs)) (upd H8 D (.lst (av ++ [v]))) :=
                      ((T36.trans ((T8.less l9).frless pls.sub)).updNew hD nFD hA8).less l11
                    have PD : Pers io8 (Ms io8 (pls Fr D) s7 σ5) H8 io8 (Ms io8 (pls Fr D) (wipeS vs s7) (wipe σ vs)) (upd H8 D (.lst (av ++ [v]))) :=
                      ⟨fun b u e h => by rw [upd_ne (fun z => by subst z; exact h (.inr (.inl (.inr rfl))))]; exact e, fun b z => .inl (l11 b z), fun _ _ e => e⟩
                    exact ⟨io8, _, acc ++ [yv], av ++ [v], S11, T11, upd_same, (RA8.append (Rws.one R9)).pers PD, fun j hj => (wipeR_get (r := s7.r)).2 hj, e3⟩
                  · cases e3
    · have hi' : i = kw.ws.length := by omega
      subst hi'
      rw [List.drop_length] at e3
      unfold lcL at e3
      rw [if_pos ck] at e3
      cases e3
      refine .inl ⟨G.stop _ _ _ T2.p cn, hok _ rfl (.ref D) H2 io2 ?_⟩
      obtain ⟨S3, l3⟩ := S2.sub (r' := s'.r) (σ' := σ) (by rw [S2.len, wipe_length]) fun j => by
        by_cases hj : j ∈ vs
        · exact .inr (wn j hj)
        · exact .inl ⟨rfl, ((wipe_get (σ := σ)).1 hj).symm⟩
      refine ⟨D, .lst av, rfl, hA, fun z => ?_, S3, (px.2.trans T2).less l3, av, rfl, RA.pers (.less l3)⟩
      rcases z with z | ⟨j, c, h1, h2⟩
      · exact nFD z
      · obtain ⟨b, o, q1, _, _, q4⟩ := S3.own j c h1
        rw [h2] at q1
        cases q1
        exact q4 (.inr rfl)
end
end Z
set_option Elab.async false
set_option linter.all false
set_option maxRecDepth 100000
namespace Z
open PySem PySem.Spec PyProof.Rows L2
section
variable {X : Cx} {ea : EA} {Wx : WX} {a b c e : Expr} {ma mb mc m : Mo RV} {pos pos' : Pos} {st : Stmt} {rest sts : List Stmt} {f g : Mo Fl} {mt : Mo Bool}
theorem PE.imp {t t' : TE} (h : PE X e t) (k : ∀ σ H Q, t' σ H Q → t σ H Q) : PE X e t' := ⟨fun pins s σ H Q I q => h.run pins s σ H Q I (k _ _ _ q)⟩
theorem Pee.can (h : Pee X ea Wx e m) : PE X e (tOf X.K X.mg ea Wx m) := by
  obtain ⟨t, p, r⟩ := h.ex
  exact PE.imp p fun σ H Q ⟨io, Fr, s, r0, s', S0, e, h1, h2⟩ => r σ H io Fr s S0 r0 s' e Q h1 h2
theorem Pet.can (h : Pet X ea Wx e mt) : PT X e (ttOf X.K X.mg ea Wx mt) := by
  obtain ⟨t, p, r⟩ := h.ex
  exact ⟨fun pins s σ H Q I ⟨io, Fr, s1, r0, s', S0, e, h1, h2⟩ => p.run pins s σ H Q I (r σ H io Fr s1 S0 r0 s' e Q h1 h2)⟩
structure Peg (X : Cx) (ea : EA) (tg : Expr) (t : W → Mo Unit) (l : List Nat) : Prop where
  ex : ∃ g, PG X tg g ∧ RefG X.K X.mg ea g t l
structure Pegs (X : Cx) (ea : EA) (tgs : List Expr) (t : List W → Mo Unit) (l : List Nat) : Prop where
  ex : ∃ g, PGs X tgs g ∧ RefGs X.K X.mg ea g t l
structure Pei (X : Cx) (ea : EA) (Wx : WX) (tg iter : Expr) (m : Mo Wk) : Prop where
  ex : ∃ wi, PI X tg iter wi ∧ RefI X.K X.mg ea Wx wi m
theorem Peg.can {tg : Expr} {t : W → Mo Unit} {l : List Nat} (h : Peg X ea tg t l) : PG X tg (gOf X.K X.mg ea t l) := by
  obtain ⟨g, p, r⟩ := h.ex
  exact ⟨fun pins s σ H v u Q I rv ⟨io, Fr, s1, w, r0, s', S0, R, e, h⟩ => p.run pins s σ H v u Q I rv (r.go σ H io Fr s1 w v S0 R r0 s' e Q h)⟩
theorem Peg.ne {tg : Expr} {t : W → Mo Unit} {l : List Nat} (h : Peg X ea tg t l) : ∀ w s r s', t w s = some (r, s') → r = .ok () := let ⟨_, _, r⟩ := h.ex; r.ne
theorem PI.or {tg iter : Expr} {wi wi' : TI} (h : PI X tg iter wi) (h' : PI X tg iter wi') : PI X tg iter (fun σ H R => wi σ H R ∨ wi' σ H R) := ⟨fun pins s σ H R I q => q.elim (h.run pins s σ H R I) (h'.run pins s σ H R I)⟩
theorem pee_ife (hc : Pet X ea Wx c mt) (ha : Pee X ea Wx a ma) (hb : Pee X ea Wx b mb) : Pee X ea Wx (.IfExp c a b pos) (mIfE mt ma mb) :=
  let ⟨_, p, r⟩ := hc.ex; let ⟨_, p1, r1⟩ := ha.ex; let ⟨_, p2, r2⟩ := hb.ex; ⟨_, pe_ifExp p p1 p2, ref_ife r r1 r2⟩
theorem pee_one {op} (h : Pee X ea Wx a ma) : Pee X ea Wx (.BoolOp op [a] pos) ma := let ⟨_, p, r⟩ := h.ex; ⟨_, pe_one p, r⟩
theorem pee_and {es : List Expr} (ha : Pee X ea Wx a ma) (hb : Pee X ea Wx (.BoolOp .And (b :: es) pos) mb) : Pee X ea Wx (.BoolOp .And (a :: b :: es) pos) (mAndV ma mb) :=
  let ⟨_, p1, r1⟩ := ha.ex; let ⟨_, p2, r2⟩ := hb.ex; ⟨_, L2.pe_and p1 p2, ref_andV r1 r2⟩
theorem pee_not (ha : Pee X ea Wx a ma) : Pee X ea Wx (.UnaryOp .Not a pos) (mNotV ma) := let ⟨_, p1, r1⟩ := ha.ex; ⟨_, L2.pe_not p1, ref_notV r1⟩
theorem peg_name (i : Nat) {x : Str} (hN : X.N.Nodup) (hi : X.N[i]? = some x := by rfl) (hx : Loc X.env.scope x := by first | exact Or.inl rfl | exact Or.inr rfl) (hf : X.fn x = true ∨ X.env.scope.names.lookup x = some .local := by first | exact .inl rfl | exact .inr rfl) :
    Peg X ea (.Name x pos) (tgN i) [i] := ⟨_, pg_name hN hi hx hf, ref_tgN i⟩
theorem pegs_nil : Pegs X ea [] tgsNil [] := ⟨_, pgs_nil, ref_tgsNil⟩
theorem pegs_cons {es : List Expr} {t : W → Mo Unit} {u : List W → Mo Unit} {l l' : List Nat} (h1 : Peg X ea e t l) (h2 : Pegs X ea es u l') (hs : (assignEach (e :: es) X.env).map (·.2) = assign e X.env :: (assignEach es X.env).map (·.2) := by rfl) :
    Pegs X ea (e :: es) (tgsCons t u) (l ++ l') := let ⟨_, p, r⟩ := h1.ex; let ⟨_, p', r'⟩ := h2.ex; ⟨_, pgs_cons p p' hs, ref_tgsCons r r'⟩
theorem peg_tup {es : List Expr} {k : Nat} {u : List W → Mo Unit} {l : List Nat} {n : Nat} (h : Pegs X ea es u l) (hc : X.calm = true := by rfl) (hn : (assignEach es X.env).length = n := by rfl) (hst : (assignEach es X.env).findIdx? (·.1) = none := by rfl) :
    Peg X ea (.Tuple es k pos) (tgT n u) l := let ⟨_, p, r⟩ := h.ex; ⟨_, pg_tup hc p hn hst, ref_tgT r⟩
theorem pei_seq {tg : Expr} (h : Pee X ea Wx e m) : Pei X ea Wx tg e (mIter m) := let ⟨_, p, r⟩ := h.ex; ⟨_, PI.or (pi_list p) (pi_tup p), ref_iter r⟩
theorem pei_rng1 {tg : Expr} {p : Pos} {ms : Mo (List RV)} (hm : X.mg "range" = none) (ha : Pea X ea Wx [a] ms) (hg : Gl X "range" := by rfl) (hs : starEach [a] X.env = [(false, eval a X.env)] := by rfl) : Pei X ea Wx tg (.Call (.Name "range" p) [a] [] pos) (mRng1 ms) :=
  let ⟨_, p, r⟩ := ha.ex; ⟨_, pi_range1 hg hm p hs, ref_rng1 r⟩
theorem pei_rng2 {tg : Expr} {p : Pos} {ms : Mo (List RV)} (hm : X.mg "range" = none) (ha : Pea X ea Wx [a, b] ms) (hg : Gl X "range" := by rfl) (hs : starEach [a, b] X.env = [(false, eval a X.env), (false, eval b X.env)] := by rfl) (hs2 : starEach [b] X.env = [(false, eval b X.env)] := by rfl) :
    Pei X ea Wx tg (.Call (.Name "range" p) [a, b] [] pos) (mRng2 ms) := let ⟨_, p, r⟩ := ha.ex; ⟨_, pi_range2 hg hm p hs hs2, ref_rng2 r⟩
theorem pess_nil : Pess X ea Wx [] mNext := ⟨_, pss_nil, ref_next⟩
theorem pess_cons (h : Pes X ea Wx st f) (h' : Pess X ea Wx rest g) : Pess X ea Wx (st :: rest) (mSeq f g) := let ⟨_, p, r⟩ := h.ex; let ⟨_, p', r'⟩ := h'.ex; ⟨_, pss_cons p p', ref_seq r r'⟩
theorem pess_one (h : Pes X ea Wx st f) : Pess X ea Wx [st] f := let ⟨_, p, r⟩ := h.ex; ⟨_, pss_one p, r⟩
theorem pes_break : Pes X ea Wx (.Break pos) mBreak := ⟨_, ps_break, ref_break⟩
theorem pes_expr (h : Pee X ea Wx e m) (hs : swapsWith e none pos.line X.env = pure false := by rfl) : Pes X ea Wx (.Expr e pos) (mDrop m) := let ⟨_, p, r⟩ := h.ex; ⟨_, ps_expr p hs, ref_drop r⟩
theorem pes_ret (h : Pee X ea Wx e m) : Pes X ea Wx (.Return (some e) pos) (mRet m) := let ⟨_, p, r⟩ := h.ex; ⟨_, ps_ret p, ref_ret r⟩
theorem pes_if (hc : Pet X ea Wx c mt) (h : Pess X ea Wx sts f) (h' : Pess X ea Wx rest g) : Pes X ea Wx (.If c sts rest pos) (mIf mt f g) := let ⟨_, p, r⟩ := hc.ex; let ⟨_, p1, r1⟩ := h.ex; let ⟨_, p2, r2⟩ := h'.ex; ⟨_, ps_if p p1 p2, ref_if r r1 r2⟩
theorem pes_set (i : Nat) {x : Str} {pos' : Pos} (hN : X.N.Nodup) (he : Pee X ea Wx e m) (hi : X.N[i]? = some x := by rfl) (hx : Loc X.env.scope x := by first | exact Or.inl rfl | exact Or.inr rfl) (hs : swapsWith e (some (.Name x pos')) pos.line X.env = pure false := by rfl) (hf : X.fn x = true ∨ X.env.scope.names.lookup x = some .local := by first | exact .inl rfl | exact .inr rfl) :
    Pes X ea Wx (.Assign [.Name x pos'] e pos) (mAsg i m) := let ⟨_, p, r⟩ := he.ex; ⟨_, ps_set hN hi hx p hs hf, ref_asg i r⟩
theorem pes_asg {tg : Expr} {t : W → Mo Unit} {l : List Nat} (he : Pee X ea Wx e m) (hg : Peg X ea tg t l) (hs : swapsWithSole [tg] e pos.line X.env = pure false := by rfl) (hw : swappedStores [tg] e X.env = pure none := by rfl)
    (h1 : (assignEach [tg] X.env).map (·.2) = [assign tg X.env] := by rfl) : Pes X ea Wx (.Assign [tg] e pos) (mAsgT t m) := let ⟨_, p, r⟩ := he.ex; let ⟨_, p', r'⟩ := hg.ex; ⟨_, ps_asg p p' hs hw h1, ref_asgT r r'⟩
theorem pes_for {tg iter : Expr} {mi : Mo Wk} {t : W → Mo Unit} {l : List Nat} (hp : PassesOwn (model X.prog X.w) X.A X.env X.xe) (hi : Pei X ea Wx tg iter mi) (hg : Peg X ea tg t l) (hb : Pess X ea Wx sts f) (hc : X.calm = true := by rfl) (hs : ∀ x, foldedSetIterable iter X.env x = pure x := by intro _; rfl) :
    Pes X ea Wx (.For tg iter sts [] pos) (mFor mi t f) := let ⟨_, p, r⟩ := hi.ex; let ⟨_, p1, r1⟩ := hg.ex; let ⟨_, p2, r2⟩ := hb.ex; ⟨_, ps_for hp hc p p1 p2 hs, ref_for r r1 r2⟩
section
variable {elt tg iter : Expr} {ifs : List Expr} {scope : Scope} {own : List (Str × Nat)} {mi : Mo Wk} {t : W → Mo Unit} {l : List Nat} {me : Mo RV}
structure Pets (X : Cx) (ea : EA) (Wx : WX) (ifs : List Expr) (m : Mo Bool) : Prop where
  ex : ∃ t, PTs X ifs t ∧ RefT X.K X.mg ea Wx t m
theorem Pets.can {m : Mo Bool} (h : Pets X ea Wx ifs m) : PTs X ifs (ttOf X.K X.mg ea Wx m) := by
  obtain ⟨t, p, r⟩ := h.ex
  exact ⟨fun pins s σ H Q I ⟨io, Fr, s1, r0, s', S0, e, h1, h2⟩ => p.run pins s σ H Q I (r σ H io Fr s1 S0 r0 s' e Q h1 h2)⟩
def mYes : Mo Bool := ret true
theorem pets_nil : Pets X ea Wx [] mYes := ⟨_, pts_nil, fun σ H io Fr s S0 r0 s' e Q hok _ => by cases e; exact hok _ rfl _ _ ⟨S0, .refl⟩⟩
theorem pets_one (h : Pet X ea Wx c mt) : Pets X ea Wx [c] mt := let ⟨_, p, r⟩ := h.ex; ⟨_, pts_one p, r⟩
theorem tgN_ne (i : Nat) : ∀ w s r s', tgN i w s = some (r, s') → r = .ok () := fun w s r s' e => by cases e; rfl
structure Blk (X : Cx) (ea : EA) (tg elt : Expr) (ifs : List Expr) (scope : Scope) (own : List (Str × Nat)) (t : W → Mo Unit) (l : List Nat) (mt : Mo Bool) (me : Mo RV) : Prop where
  ok : BlkOk X.N X.env.scope scope own
  ne : ∀ w s r s', t w s = some (r, s') → r = .ok ()
  sub : ∀ i ∈ l, i ∈ own.map (·.2)
  tg : ∀ (s : Shared) (H : Hp) (C : Addr) (cl : List (Str × Addr)) (fp : List Addr), Peg (X.blk s H scope (compEnvC scope cl C X.env) fp) ea tg t l
  ts : ∀ (s : Shared) (H : Hp) (C : Addr) (cl : List (Str × Addr)) (fp : List Addr), Pets (X.blk s H scope (compEnvC scope cl C X.env) fp) ea W0 ifs mt
  el : ∀ (s : Shared) (H : Hp) (C : Addr) (cl : List (Str × Addr)) (fp : List Addr), Pee (X.blk s H scope (compEnvC scope cl C X.env) fp) ea W0 elt me
theorem pee_lc (hN : X.N.Nodup) (hi : Pei X ea Wx tg iter mi) (b : Blk X ea tg elt ifs scope own t l mt me) (hc : X.calm = true := by rfl) (hs : ∀ x, foldedSetIterable iter X.env x = pure x := by intro _; rfl) :
    Pee X ea Wx (.ListComp elt [⟨tg, iter, ifs, 0⟩] scope pos) (mLc (own.map (·.2)) mi t mt me) := by
  obtain ⟨wi, p, r⟩ := hi.ex
  exact ⟨_, pe_lc hc hN p b.ok (fun s H C cl fp => (b.tg s H C cl fp).can) (fun s H C cl fp => (b.ts s H C cl fp).can) (fun s H C cl fp => (b.el s H C cl fp).can) hs,
    ref_lc r (ref_gOf b.ne) b.sub (ref_ttOf _) (ref_tOf _)⟩
theorem pes_setLc (i : Nat) {y : Str} {py spos : Pos} (hN : X.N.Nodup) (hi : Pei X ea Wx tg iter mi) (b : Blk X ea tg elt ifs scope own t l mt me) (hy : X.N[i]? = some y := by rfl) (hyl : X.env.scope.names.lookup y = some .local := by rfl)
    (hsw : swapsWith (.ListComp elt [⟨tg, iter, ifs, 0⟩] scope pos) (some (.Name y py)) spos.line X.env = pure true := by exact sw_true rfl rfl rfl (by decide +kernel)) (hc : X.calm = true := by rfl) (hs : ∀ x, foldedSetIterable iter X.env x = pure x := by intro _; rfl) :
    Pes X ea Wx (.Assign [.Name y py] (.ListComp elt [⟨tg, iter, ifs, 0⟩] scope pos) spos) (mAsg i (mLc (own.map (·.2)) mi t mt me)) := by
  obtain ⟨wi, p, r⟩ := hi.ex
  exact ⟨_, ps_setLc hc hN hy hyl hsw p b.ok (fun s H C cl fp => (b.tg s H C cl fp).can) (fun s H C cl fp => (b.ts s H C cl fp).can) (fun s H C cl fp => (b.el s H C cl fp).can) hs,
    ref_asg i (ref_lc r (ref_gOf b.ne) b.sub (ref_ttOf _) (ref_tOf _))⟩
end
end
abbrev Fn := List W → List Cell → Option (Except Ex FV × List Cell)
section
variable {K : PySem.W.Frag} {mg : Str → Option Value} {ea : EA} {io io' : List Addr} {Fr Fr' : Addr → Prop} {s s' s2 : S} {σ σ' : L2.St} {H H' : Hp} {w : W} {v : V} {c : Cell} {o : HO} {a p : Addr} {ws : List W} {vs : List V} {M : Addr → Prop}
def PostXF (K : PySem.W.Frag) (mg : Str → Option Value) (io : List Addr) (M Fr : Addr → Prop) (H : Hp) (G' : List Cell) (io' : List Addr) (H' : Hp) (x : Ex) (cls : Value) (d : Option Addr) : Prop :=
  GSim K mg io' Fr G' H' ∧ Stp io M Fr H io' (Mu io' Fr) H' ∧ ExR K mg io' (Mu io' Fr) H' x cls d
def spM (K : PySem.W.Frag) (mg : Str → Option Value) (n : Nat) (m : Fn) : Sp := fun vs H Q E => vs.length = n ∧ ∃ io Fr G ws r G', GSim K mg io Fr G H ∧ Rws K mg io (Mu io Fr) H ws vs ∧ m ws G = some (r, G') ∧
  (∀ f, r = .ok f → ∀ v H' io', PostF K mg io (Mu io Fr) Fr H G' io' H' f v → Q v H') ∧ (∀ x, r = .error x → ∀ cls d H' io', PostXF K mg io (Mu io Fr) Fr H G' io' H' x cls d → E cls d H')
structure FnM (P : Program) (w : World) (K : PySem.W.Frag) (mg : Str → Option Value) (base : Heap) (k : Nat) (f : Addr) (fd : FuncData) (ps : List Str) (m : Fn) : Prop where
  ok : FnOk P w K mg base (L2.CX P w) k f fd ps (spM K mg ps.length m)
def fnM (n : Nat) (body : Mo Fl) : Fn := fun ws G => match body ⟨ws.map SV.val ++ List.replicate (n - ws.length) SV.non, G⟩ with
  | some (.ok (.rt f), s) => some (.ok f, s.G)
  | some (.ok .nx, s) => some (.ok (.val .non), s.G)
  | some (.error x, s) => some (.error x, s.G)
  | _ => none
theorem sim_start {n : Nat} {N : List Str} (hn : N.length = n) (hl : vs.length ≤ n) (g : GSim K mg io Fr s.G H) (r : Rws K mg io (Mu io Fr) H ws vs) : Sim K mg ea io Fr ⟨ws.map SV.val ++ List.replicate (n - ws.length) SV.non, s.G⟩ (L2.start N vs) H ∧
    (∀ b, Ms io Fr ⟨ws.map SV.val ++ List.replicate (n - ws.length) SV.non, s.G⟩ (L2.start N vs) b ↔ Mu io Fr b) := by
  have no : ∀ (i : Nat) (c : Cell), (ws.map SV.val ++ List.replicate (n - ws.length) SV.non)[i]? ≠ some (SV.own c) := fun i c h => by
    rcases Nat.lt_or_ge i (ws.map SV.val).length with q | q
    · rw [List.getElem?_append_left q, List.getElem?_map] at h
      cases e : ws[i]? <;> rw [e] at h <;> cases h
    · rw [List.getElem?_append_right q] at h
      have h2 := List.mem_of_getElem? h
      have h3 := List.eq_of_mem_replicate h2
      cases h3
  have fo : ∀ b, FrO Fr (ws.map SV.val ++ List.replicate (n - ws.length) SV.non) (L2.start N vs) b ↔ Fr b := fun b => ⟨fun z => z.elim id fun ⟨i, c, h, _⟩ => (no i c h).elim, .inl⟩
  have mo : ∀ b, Ms io Fr ⟨ws.map SV.val ++ List.replicate (n - ws.length) SV.non, s.G⟩ (L2.start N vs) b ↔ Mu io Fr b := fun b => ⟨fun z => z.imp id (fo b).1, fun z => z.imp id .inl⟩
  refine ⟨⟨?_, g.less (s := s) fun b z => (fo b).1 z, fun i u e => ?_, fun i c e => (no i c e).elim, fun i j c d a e => (no i c e).elim, fun i y e => ?_⟩, mo⟩
  · simp only [L2.start, List.length_append, List.length_map, List.length_replicate, hn]
    have := r.1
    omega
  · have hi : i < (ws.map SV.val).length := by
      rcases Nat.lt_or_ge i (ws.map SV.val).length with q | q
      · exact q
      · simp only at e
        rw [List.getElem?_append_right q] at e
        have h3 := List.eq_of_mem_replicate (List.mem_of_getElem? e)
        cases h3
    simp only at e
    rw [List.getElem?_append_left hi, List.getElem?_map] at e
    cases q : ws[i]? with
    | none => rw [q] at e; cases e
    | some u' =>
      rw [q] at e
      cases e
      obtain ⟨v, h1, h2⟩ := r.get q
      have hv := get_lt h1
      refine ⟨v, ?_, h2.pers (.less fun b z => (mo b).1 z)⟩
      unfold L2.start
      rw [List.getElem?_append_left (by simpa using hv), List.getElem?_map, h1]
      rfl
  · exfalso
    simp only at e
    rcases Nat.lt_or_ge i (ws.map SV.val).length with q | q
    · rw [List.getElem?_append_left q, List.getElem?_map] at e
      cases k : ws[i]? <;> rw [k] at e <;> cases e
    · rw [List.getElem?_append_right q] at e
      have h3 := List.eq_of_mem_replicate (List.mem_of_getElem? e)
      cases h3
theorem defM {P : Program} {w : World} {base : Heap} {x qual : Str} {st : Stmt} {f : Addr} {fd : FuncData} {N ps : List Str} {k n : Nat} {body : Mo Fl} (F : Fun K x qual st f fd) (S : FnScope N ps (defScope st)) (hn : N.length = n)
    (hb : ∀ (cdv : Value) (A : Around) (outer : List Env) (s : Shared) (H : Hp) (E : XK), Room k (A.deeper (envOfC qual (defScope st) s.heap.objs.size f cdv)) →
      Pess (cxOf (L2.CX P w) P w K mg base N qual (defScope st) f cdv A outer s H E) ea0 (fun cls d _ H => E cls d H) (defBody st) body) : FnM P w K mg base (k + 1) f fd ps (fnM n body) := by
  refine ⟨F.okX S (fun vs H Q E h => h.1) fun cdv A outer s H vs Q E hr h => ?_⟩
  obtain ⟨hl, io, Fr, G, ws, r, G', g, R, e, hok, hex⟩ := h
  obtain ⟨t, p, rf⟩ := (hb cdv A outer s H E hr).ex
  refine ⟨t, p, ?_⟩
  have hps : ps.length ≤ n := by
    have := congrArg List.length S.pre
    rw [List.length_take] at this
    omega
  obtain ⟨S0, mo⟩ := sim_start (ea := ea0) (s := ⟨[], G⟩) hn (by omega) g R
  unfold fnM at e
  have T0 : ∀ {M' : Addr → Prop} {io' : List Addr} {H' : Hp}, Stp io (Ms io Fr ⟨ws.map SV.val ++ List.replicate (n - ws.length) SV.non, G⟩ (L2.start N vs)) Fr H io' M' H' → Stp io (Mu io Fr) Fr H io' M' H' := fun T =>
    (Stp.refl.less fun b z => (mo b).1 z : Stp io (Mu io Fr) Fr H io (Ms io Fr ⟨ws.map SV.val ++ List.replicate (n - ws.length) SV.non, G⟩ (L2.start N vs)) H).trans T
  cases k : body ⟨ws.map SV.val ++ List.replicate (n - ws.length) SV.non, G⟩ with
  | none => rw [k] at e; cases e
  | some pr =>
    obtain ⟨rb, sb⟩ := pr
    rw [k] at e
    refine rf _ _ _ _ _ S0 _ _ k _ (fun q σ' H' io' px => ?_) (fun q σ' H' io' px => ?_) (fun q σ' H' io' px => ?_) (fun f q v H' io' px => ?_) fun xx q cls d σ' H' io' px => ?_
    · subst q
      cases e
      exact hok _ rfl _ _ _ ⟨px.1.g.less (s := sb) fun b z => .inl z, (T0 px.2).less fun b z => z.imp id .inl, .non⟩
    · subst q; cases e
    · subst q; cases e
    · subst q
      cases e
      cases f with
      | val w => exact hok _ rfl v H' io' ⟨px.1, T0 px.2.1, px.2.2⟩
      | own c =>
        obtain ⟨a, o, h1, h2, h3, h4, h5, h6⟩ := px
        exact hok _ rfl v H' io' ⟨a, o, h1, h2, h3, h4, T0 h5, h6⟩
    · subst q
      cases e
      obtain ⟨x1, x2, C, x3, x4, x5⟩ := px
      have le : ∀ b, Mu io' Fr b → Ms io' Fr sb σ' b := fun b z => z.imp id .inl
      refine hex _ rfl cls d H' io' ⟨x1.g.less (s := sb) fun b z => .inl z, (T0 x2).less le, C, x3, x4, x5.imp id ?_⟩
      rintro ⟨dd, us, y1, y2, y3, y4⟩
      exact ⟨dd, us, y1, y2, fun z => y3 (le _ z), y4.pers (.less le)⟩
def rvOf : FV → RV
  | .val w => .val w
  | .own c => .own c
def callG (m : Fn) (ws : List W) : Mo RV := fun s => match m ws s.G with
  | some (.ok f, G') => some (.ok (rvOf f), { s with G := G' })
  | some (.error x, G') => some (.error x, { s with G := G' })
  | none => none
theorem ExR.congr {x : Ex} {cls : Value} {d : Option Addr} {M M' : Addr → Prop} (h : ∀ b, M' b → M b) (e : ExR K mg io M H x cls d) : ExR K mg io M' H x cls d := by
  obtain ⟨C, x3, x4, x5⟩ := e
  refine ⟨C, x3, x4, x5.imp id ?_⟩
  rintro ⟨dd, us, y1, y2, y3, y4⟩
  exact ⟨dd, us, y1, y2, fun z => y3 (h _ z), y4.pers (.less h)⟩
theorem fro_pls {r : List SV} : ∀ b, FrO (pls Fr a) r σ b ↔ pls (FrO Fr r σ) a b := fun b => by
  constructor
  · rintro ((z | z) | z)
    · exact .inl (.inl z)
    · exact .inr z
    · exact .inl (.inr z)
  · rintro ((z | z) | z)
    · exact .inl (.inl z)
    · exact .inr z
    · exact .inl (.inr z)
theorem spM_use {Wx : WX} {n : Nat} {m : Fn} (S0 : Sim K mg ea io Fr s σ H) (R : Rws K mg io (Ms io Fr s σ) H ws vs) (hn : vs.length = n) {r : Except Ex RV} (e : callG m ws s = some (r, s')) {Q : VK}
    (hok : ∀ x, r = .ok x → ∀ v H' io', PostE K mg ea io Fr s σ H s' io' H' x v → Q v H') (hex : ∀ x, r = .error x → ∀ cls d H' io', PostX K mg ea io Fr s σ H s' σ io' H' x cls d → Wx cls d σ H') : spM K mg n m vs H Q (WE Wx σ) := by
  unfold callG at e
  have nown : ∀ a (i : Nat) c, s.r[i]? = some (.own c) → σ[i]? = some (some (V.ref a)) → ¬ Fr a := fun a i c h1 h2 => by
    obtain ⟨b, o, q1, _, _, q4⟩ := S0.own i c h1
    rw [h2] at q1; cases q1
    exact q4
  split at e
  · rename_i f G' k
    cases e
    refine ⟨hn, io, FrO Fr s.r σ, s.G, ws, _, G', S0.g, R, k, fun f' q v H' io' p => ?_, (fun _ q => by cases q)⟩
    cases q
    cases f with
    | val w =>
      obtain ⟨g, T, r⟩ := p
      exact hok _ rfl v H' io' ⟨S0.call g T nown, T.frless fun b z => .inl z, r⟩
    | own c =>
      obtain ⟨a, o, rfl, ha, nf, g, T, r⟩ := p
      have g' : GSim K mg io' (FrO (pls Fr a) s.r σ) G' H' := g.less (s := { s with G := G' }) fun b z => (fro_pls b).1 z
      have le : ∀ b, Mu io' (FrO (pls Fr a) s.r σ) b → Mu io' (pls (FrO Fr s.r σ) a) b := fun b z => z.imp id (fro_pls b).1
      refine hok _ rfl _ H' io' ⟨a, o, rfl, ha, nf, S0.call g' (T.less le) fun b i c h1 h2 z => ?_, (T.less le).frless fun b z => .inl z, r.pers (.less le)⟩
      rcases z with z | z
      · exact nown b i c h1 h2 z
      · subst z
        exact nf (.inr ⟨i, c, h1, h2⟩)
  · rename_i x G' k
    cases e
    refine ⟨hn, io, FrO Fr s.r σ, s.G, ws, _, G', S0.g, R, k, (fun _ q => by cases q), fun x' q cls d H' io' p => ?_⟩
    cases q
    exact hex _ rfl cls d H' io' ⟨S0.call p.1 p.2.1 nown, p.2.1.frless fun b z => .inl z, p.2.2⟩
  · cases e
def mCall (n : Nat) (m : Fn) (ms : Mo (List RV)) : Mo RV := bnd ms fun xs => bnd (freezeAll xs) fun ws => if ws.length = n then callG m ws else stk
theorem ref_call {Wx : WX} {n : Nat} {m : Fn} {ta : TA} {ms : Mo (List RV)} (ha : RefA K mg ea Wx ta ms) : RefE K mg ea Wx (tCallS (spM K mg n m) (WE Wx) ta) (mCall n m ms) := by
  intro σ H io Fr s S0 r0 s' e Q hok hex
  refine arg2 ha S0 e hex fun xs vs s1 H1 io1 e2 px R1 => ?_
  rcases bnd_some e2 with ⟨x, e3, rfl⟩ | ⟨ws, s2, e3, e4⟩
  · obtain ⟨_, _, _, _, q, _⟩ := freezeAll_ok px.1 R1 e3
    cases q
  · obtain ⟨_, m2, S2, ws', q, r2⟩ := freezeAll_ok px.1 R1 e3
    cases q
    split at e4
    · rename_i hn
      have T2 := px.2.less m2
      exact spM_use S2 r2 (by rw [← r2.1]; exact hn) e4 (fun x q v H' io' p => hok x q v H' io' (p.trans T2)) fun x q cls d H' io' p => hex x q cls d H' io' ⟨p.1, T2.trans p.2.1, p.2.2⟩
    · cases e4
end
section
variable {X : Cx} {ea : EA} {Wx : WX} {e : Expr} {es : List Expr} {ms : Mo (List RV)} {m : Fn} {k : Nat} {f : Addr} {fd : FuncData} {ps : List Str} {x : Str} {p pos : Pos}
theorem pee_call (F : FnM X.prog X.w X.K X.mg X.base k f fd ps m) (hr : Room k X.A) (hm : X.mg x = some (.ref f)) (hk : PySem.W.keepIn X.K (.ref f) = true) (hb : Binds X.K fd ps []) (tk : Takes X Wx) (ha : Pea X ea Wx (e :: es) ms)
    (hg : Gl X x := by rfl) (hdb : (x == ("__debug__" : Str)) = false := by decide) (he : starEach (e :: es) X.env = (false, eval e X.env) :: starEach es X.env := by rfl) (hpl : (backTo pos (starEach es X.env)).any (·.1) = false := by rfl) :
    Pee X ea Wx (.Call (.Name x p) (e :: es) [] pos) (mCall ps.length m ms) := by
  obtain ⟨t, q, r⟩ := ha.ex
  exact ⟨_, pe_callS F.ok hr hg hm hk hb (fun σ => passAt tk σ) q hdb he hpl, ref_call r⟩
end
end Z
set_option Elab.async false
set_option linter.all false
set_option maxRecDepth 100000
namespace Z
open PySem PySem.Spec PyProof.Rows L2
section
variable {X : Cx} {CX : CXT} {k : Nat} {f C : Addr} {fd : FuncData} {ps : List Str} {sp : Sp} {dvs : List V} {ds : List Value} {E : L2.St → XK} {x m : Str} {p pos apos : Pos} {e o : Expr} {es : List Expr} {ta : TE} {t : TA}
theorem args_go {g : Addr} {first : List Value} (kp : PySem.W.keepIn X.K (.ref g) = true) (ha : PA X (e :: es) t) (hst : starEach (e :: es) X.env = (false, eval e X.env) :: starEach es X.env) (hpl : (backTo pos (starEach es X.env)).any (·.1) = false)
    {pins : List (Addr × Obj)} {s : Shared} {σ : L2.St} {H : Hp} {Q : Value → Shared → Prop} {T : List V → Hp → Prop} (I : Inv X pins σ H s) (h : t σ H T)
    (go : ∀ us vs s1 H1, Inv X pins σ H1 s1 → Vals vs us → T vs H1 → wpAny (model X.prog X.w) X.A (call (.ref g) (first ++ us)) Q X.xe s1) :
    wpAny (model X.prog X.w) X.A (callWith pos (.ref g) first (backTo pos (starEach (e :: es) X.env)) []) Q X.xe s := by
  apply PySem.W.callWith_K I.ok.mod.kin kp _ hst hpl
  apply thn (ha.run pos pins s σ H _ I h)
  rintro us s1 ⟨vs, H1, J, r, q⟩
  exact ⟨J.kIn, go us vs s1 H1 J r q⟩
theorem run_makeS {pins : List (Addr × Obj)} {σ : L2.St} {H : Hp} {s : Shared} {Q : VK} {us : List Value} {vs : List V} (M : Mk X.K C f) (F : FnOk X.prog X.w X.K X.mg X.base CX k f fd ps sp) (hr : Room (k + 1) X.A) (hb : Binds X.K fd ps ds) (hd : Vals dvs ds)
    (hx : PassesAt CX X σ (E σ)) (I : Inv X pins σ H s) (r : Vals vs us)
    (h : ∀ x dx, H x = none → H dx = none → dx ≠ x → sp (.ref x :: (vs ++ dvs)) (upd (upd H dx (.own x)) x (.ins C dx [])) (fun v H2 => v = .non ∧ Q (.ref x) H2) (E σ)) : wpAny (model X.prog X.w) X.A (call (.ref C) us) (EP X pins σ Q) X.xe s := by
  generalize hn : s.heap.objs.size = n
  have new : ∀ j, n ≤ j → H j = none := fun j le => I.hok.fresh (by rw [hn]; exact le)
  have q := h (n + 1) n (new _ (Nat.le_succ n)) (new _ (Nat.le_refl n)) (Nat.ne_of_lt (Nat.lt_succ_self n))
  have J := Inv.made (C := C) I
  have all : Vals (V.ref (n + 1) :: (vs ++ dvs)) (Value.ref (n + 1) :: (us ++ ds)) := .cons rfl (r.append hd)
  have many : (Value.ref (n + 1) :: us ++ ds).length = ps.length := by simpa using all.length.symm.trans (F.len _ _ _ _ q)
  rw [hn] at J
  have body := F.run _ X.stack _ _ ⟨Value.ref (n + 1) :: us, []⟩ (Value.ref (n + 1) :: (us ++ ds)) _ _ (E σ) (hr.make C us []) (J.env0.make C us []) (hb _ (Value.ref (n + 1) :: us) J.kIn many) all q
  subst hn
  refine wpAny_call (make_map (f := f) I.kIn M.makes M.init (beq_iff_eq.mp M.fn) (codeAny_mono body ?_))
  rintro (er | (_ | _ | _ | u)) s' z
  · exact hx pins _ _ er s' J z
  · exact z.elim
  · exact z.elim
  · exact z.elim
  · obtain ⟨_, H', J', rv, rfl, q'⟩ := J.after z
    exact ⟨rv, V.ref _, H', J', rfl, q'⟩
def tMakeS (C : Addr) (sp : Sp) (dvs : List V) (E : L2.St → XK) (t : TA) : TE := fun σ H Q => t σ H fun vs H1 => ∀ x dx, H1 x = none → H1 dx = none → dx ≠ x → sp (.ref x :: (vs ++ dvs)) (upd (upd H1 dx (.own x)) x (.ins C dx [])) (fun v H2 => v = .non ∧ Q (.ref x) H2) (E σ)
theorem pe_makeS (M : Mk X.K C f) (F : FnOk X.prog X.w X.K X.mg X.base CX k f fd ps sp) (hr : Room (k + 1) X.A) (hg : Gl X x) (hm : X.mg x = some (.ref C)) (hb : Binds X.K fd ps ds) (hd : Vals dvs ds) (hx : ∀ σ, PassesAt CX X σ (E σ))
    (ha : PA X (e :: es) t) (hdb : (x == ("__debug__" : Str)) = false := by decide) (hst : starEach (e :: es) X.env = (false, eval e X.env) :: starEach es X.env := by rfl) (hpl : (backTo pos (starEach es X.env)).any (·.1) = false := by rfl) :
    PE X (.Call (.Name x p) (e :: es) [] pos) (tMakeS C sp dvs E t) :=
  ⟨fun _ _ σ _ _ I h => wpAny_Call_Name_kw (ld_glob I hg hm (args_go M.kp ha hst hpl I h fun _ _ _ _ J r q => run_makeS M F hr hb hd (hx σ) J r q) hdb)⟩
end
section
variable {K : PySem.W.Frag} {mg : Str → Option Value} {ea : EA} {io io' : List Addr} {Fr Fr' : Addr → Prop} {s s' s2 : S} {σ σ' : L2.St} {H H' : Hp} {w : W} {v : V} {c : Cell} {o : HO} {a p C : Addr} {ws : List W} {vs : List V} {M M' : Addr → Prop} {Wx : WX}
def ClsN (K : PySem.W.Frag) (mg : Str → Option Value) (nms : List Str) (f : Str) : Prop := ∀ nm ∈ nms, ∃ C, mg nm = some (.ref C) ∧ Cls K C ∧ NoAttr K C f
def fFld (nms : List Str) (f : Str) : W → Option OR
  | .obj nm fs => if nm ∈ nms then (fs.lookup f).map .imm else none
  | _ => none
def tFldU (K : PySem.W.Frag) (f : Str) : V → Hp → VK → Prop := fun x H Q => ∃ a C dx fs v, x = .ref a ∧ H a = some (.ins C dx fs) ∧ Cls K C ∧ NoAttr K C f ∧ fs.lookup f = some v ∧ Q v H
theorem fld_hr {nms : List Str} {f : Str} (hF : ClsN K mg nms f) : ∀ io M H x vx z Q, Rn K mg io M H x vx → fFld nms f x = some z → OQ K mg io M H z Q → tFldU K f vx H Q := by
  intro io M H x vx z Q rx e q
  unfold fFld at e
  split at e
  · split at e
    · rename_i hin
      obtain ⟨w, e1, rfl⟩ := Option.map_eq_some_iff.mp e
      obtain ⟨a, C, dx, vs, rfl, hm, ha, r⟩ := rx.obj
      obtain ⟨C', hm', hc, hn⟩ := hF _ hin
      rw [hm] at hm'
      cases hm'
      obtain ⟨v, h1, h2⟩ := Rkv.lookup (vs := vs) r e1
      exact ⟨a, C, dx, vs, v, rfl, ha, hc, hn, h1, q v h2⟩
    · cases e
  · cases e
theorem nodup_ixA {N : List Addr} (hN : N.Nodup) {i j : Nat} {x : Addr} (a : N[i]? = some x) (b : N[j]? = some x) : i = j := by
  induction N generalizing i j with
  | nil => simp at a
  | cons y N ih =>
    obtain ⟨h1, h2⟩ := List.nodup_cons.mp hN
    cases i with
    | zero =>
      cases j with
      | zero => rfl
      | succ j =>
        simp at a b
        subst a
        exact absurd (List.mem_of_getElem? b) h1
    | succ i =>
      cases j with
      | zero =>
        simp at a b
        subst b
        exact absurd (List.mem_of_getElem? a) h1
      | succ j =>
        simp at a b
        rw [ih h2 a b]
theorem Sim.setCell {n : Nat} {o' : HO} {c' : Cell} (x : Sim K mg ea io Fr s σ H) (hn : io[n]? = some a) (h : ∀ {H' : Hp}, Pers io (Ms io Fr s σ) H io (Ms io Fr s σ) H' → Rc K mg io (Ms io Fr s σ) H' c' o') :
    Sim K mg ea io Fr { s with G := s.G.set n c' } σ (upd H a o') ∧ Stp io (Ms io Fr s σ) Fr H io (Ms io Fr s σ) (upd H a o') := by
  have ain : a ∈ io := List.mem_of_getElem? hn
  have aM : Ms io Fr s σ a := .inl ain
  have nF : ¬ FrO Fr s.r σ a := x.g.dj a ain
  have q : Pers io (Ms io Fr s σ) H io (Ms io Fr s σ) (upd H a o') := ⟨fun b u e hb => by rw [upd_ne (fun z => by subst z; exact hb aM)]; exact e, fun b z => .inl z, fun _ _ e => e⟩
  refine ⟨⟨x.len, ⟨by simp [x.g.len], fun m b c h1 h2 => ?_, x.g.nd, x.g.dj, fun b z => ?_⟩, fun i w e => ?_, fun i c e => ?_, x.dist, fun i e k => let ⟨h1, h2⟩ := x.exc i e k; ⟨h1, h2.pers q⟩⟩, q, fun b z => ?_, fun b u e => ?_⟩
  · by_cases hm : n = m
    · subst hm
      rw [hn] at h1
      cases h1
      have hl := get_lt h2
      simp only [List.length_set] at hl
      rw [List.getElem?_set_self hl] at h2
      cases h2
      exact ⟨o', upd_same, h q⟩
    · rw [List.getElem?_set_ne hm] at h2
      obtain ⟨u, e, r⟩ := x.g.cell m b c h1 h2
      have nb : b ≠ a := fun z => by
        subst z
        exact hm (nodup_ixA x.g.nd hn h1)
      exact ⟨u, by rw [upd_ne nb]; exact e, r.pers q⟩
  · obtain ⟨u, e, n⟩ := x.g.fr b z
    exact ⟨u, by rw [upd_ne (fun e => by subst e; exact nF z)]; exact e, n⟩
  · obtain ⟨v, h1, h2⟩ := x.val i w e
    exact ⟨v, h1, h2.pers q⟩
  · obtain ⟨b, u, h1, h2, h3, h4⟩ := x.own i c e
    exact ⟨b, u, h1, by rw [upd_ne (fun z => by subst z; exact nF (.inr ⟨i, c, e, h1⟩))]; exact h2, h3.pers q, h4⟩
  · rw [upd_ne (fun e => by subst e; exact nF (.inl z))]
  · by_cases e' : b = a
    · exact ⟨o', by rw [e', upd_same]⟩
    · exact ⟨u, by rw [upd_ne e']; exact e⟩
def putFW (f : Str) (w : W) : List (Str × W) → List (Str × W)
  | [] => [(f, w)]
  | (g, x) :: r => if g = f then (g, w) :: r else (g, x) :: putFW f w r
theorem Rkv.putF {f : Str} (h : Rw K mg io M H w v) : ∀ {ws : List (Str × W)} {vs : List (Str × V)}, Rkv K mg io M H ws vs → Rkv K mg io M H (putFW f w ws) (L2.putF f v vs)
  | [], vs, r => by rw [r.nil_inv]; exact Rkv.cons h Rkv.nil
  | (g, x) :: ws, vs, r => by
    obtain ⟨u, t, rfl, h1, h2⟩ := r.cons_inv
    rw [show putFW f w ((g, x) :: ws) = (if g = f then (g, w) :: ws else (g, x) :: putFW f w ws) from rfl, show L2.putF f v ((g, u) :: t) = (if g = f then (g, v) :: t else (g, u) :: L2.putF f v t) from rfl]
    by_cases e : g = f
    · rw [if_pos e, if_pos e]; exact Rkv.cons h h2
    · rw [if_neg e, if_neg e]; exact Rkv.cons h1 (Rkv.putF h h2)
def putFld (nms : List Str) (f : Str) (w : W) : RV → Mo Fl
  | .val (.ref n) => fun s => match s.G[n]? with
    | some (.ins nm fs) => if nm ∈ nms ∧ fs.length < 1000 then some (.ok .nx, { s with G := s.G.set n (.ins nm (putFW f w fs)) }) else none
    | _ => none
  | _ => stk
def mSetF (nms : List Str) (f : Str) (mo mv : Mo RV) : Mo Fl := bnd mv fun y => bnd (freeze (settle y)) fun wy => bnd mo fun x => putFld nms f wy x
theorem ref_setF {nms : List Str} {f : Str} (hF : ClsN K mg nms f) {ta tv : TE} {mo mv : Mo RV} (ho : RefE K mg ea Wx ta mo) (hv : RefE K mg ea Wx tv mv) : RefS K mg ea Wx (sFld K ta tv f) (mSetF nms f mo mv) := by
  intro σ H io Fr s S0 r0 s' e D hnx hbk hct hrt hex
  refine one2 hv S0 e (fun x q cls d H' io' px => hex x q cls d σ H' io' px) fun y vy s1 H1 io1 e2 px => ?_
  obtain ⟨S1, T1, R1⟩ := px.settled
  rcases bnd_some e2 with ⟨z, e3, _⟩ | ⟨wy, s3, e3, e4⟩
  · obtain ⟨_, _, _, _, q, _⟩ := freeze_ok S1 R1 e3
    cases q
  · obtain ⟨_, l3, S3, w', q, R3⟩ := freeze_ok S1 R1 e3
    cases q
    have T3 := T1.less l3
    refine one2 ho S3 e4 (fun x q cls d H' io' px => hex x q cls d σ H' io' ⟨px.1, T3.trans px.2.1, px.2.2⟩) fun x vx s4 H4 io4 e5 p4 => ?_
    unfold putFld at e5
    split at e5
    · rename_i n
      obtain ⟨S4, T4, R4⟩ := p4
      split at e5
      · rename_i nm fs hG
        split at e5
        · rename_i hc
          cases R4 with
          | ref hn =>
            rename_i a
            obtain ⟨o, ha, C, dx, us, rfl, hm, rk⟩ := S4.g.cell n a _ hn hG
            obtain ⟨C', hm', hcl, hno⟩ := hF _ hc.1
            rw [hm] at hm'
            cases hm'
            have R5 := R3.pers T4.p
            obtain ⟨S5, T5⟩ := S4.setCell (c' := .ins nm (putFW f wy fs)) (o' := .ins C dx (L2.putF f vy us)) hn fun {H'} p => ⟨C, dx, _, rfl, hm, Rkv.putF (R5.pers p) (Rkv.pers p rk)⟩
            refine ⟨a, C, dx, us, rfl, ha, hcl, hno, by rw [← rk.length]; exact hc.2, ?_⟩
            cases e5
            exact hnx rfl _ _ io4 ⟨S5, (T3.trans T4).trans T5⟩
        · cases e5
      · cases e5
    · cases e5
def chk (nm mn : Str) (w : W) : Mo Unit := fun s => match derefW s w with
  | some (.obj nm' fs) => if nm' = nm ∧ fs.lookup mn = none then some (.ok (), s) else none
  | _ => none
def Dfl (K : PySem.W.Frag) (mg : Str → Option Value) (ds : List W) (dvs : List V) : Prop := ∀ io M H, Rws K mg io M H ds dvs
theorem Dfl.nil : Dfl K mg [] [] := fun _ _ _ => Rws.nil
end
section
variable {X : Cx} {ea : EA} {Wx : WX} {e o : Expr} {es : List Expr} {mo mv : Mo RV} {ms : Mo (List RV)} {m : Fn} {k : Nat} {f C : Addr} {fd : FuncData} {ps : List Str} {x nm fl mn : Str} {p pos apos tpos : Pos} {nms : List Str} {ds : List Value} {dw : List W} {dvs : List V}
theorem pee_fld (hF : ClsN X.K X.mg nms fl) (ho : Pee X ea Wx o mo) (hb : attributeBase o fl X.env (eval o X.env) = eval o X.env := by rfl) : Pee X ea Wx (.Attribute o fl pos) (mUn (fFld nms fl) mo) := by
  obtain ⟨t, q, r⟩ := ho.ex
  exact ⟨_, pe_fld q hb, ref_un (r := tFldU X.K fl) (fld_hr hF) r⟩
theorem pes_fld (hF : ClsN X.K X.mg nms fl) (ho : Pee X ea Wx o mo) (hv : Pee X ea Wx e mv) (hs : swapsWith e (some (.Attribute o fl tpos)) pos.line X.env = pure false := by rfl) : Pes X ea Wx (.Assign [.Attribute o fl tpos] e pos) (mSetF nms fl mo mv) := by
  obtain ⟨t, q, r⟩ := ho.ex
  obtain ⟨t', q', r'⟩ := hv.ex
  exact ⟨_, ps_fld q q' hs, ref_setF hF r r'⟩
end
end Z
set_option Elab.async false
set_option linter.all false
set_option maxRecDepth 100000
namespace Z
open PySem PySem.Spec PyProof.Rows L2
mutual
def noRef : W → Bool
  | .ref _ => false
  | .tup ws => noRefs ws
  | .lst ws => noRefs ws
  | .frl ws => noRefs ws
  | .dK kvs => noRefK kvs
  | .dT kvs => noRefT kvs
  | .dF kvs => noRefT kvs
  | .obj _ fs => noRefF fs
  | .slt _ ws => noRefs ws
  | .non => true
  | .bl _ => true
  | .int _ => true
  | .str _ => true
  | .byt _ => true
def noRefs : List W → Bool
  | [] => true
  | w :: ws => noRef w && noRefs ws
def noRefK : List (Key × W) → Bool
  | [] => true
  | (_, w) :: ws => noRef w && noRefK ws
def noRefT : List (List Key × W) → Bool
  | [] => true
  | (_, w) :: ws => noRef w && noRefT ws
def noRefF : List (Str × W) → Bool
  | [] => true
  | (_, w) :: ws => noRef w && noRefF ws
end
theorem noRefs_get : ∀ {ws : List W} {i : Nat} {w : W}, noRefs ws = true → ws[i]? = some w → noRef w = true
  | [], i, w, h, e => by simp at e
  | x :: ws, 0, w, h, e => by simp at e; subst e; simp [noRefs] at h; exact h.1
  | x :: ws, i + 1, w, h, e => by simp [noRefs] at h; exact noRefs_get h.2 (by simpa using e)
theorem noRefK_get : ∀ {ws : List (Key × W)} {i : Nat} {w : W}, noRefK ws = true → (ws.map (·.2))[i]? = some w → noRef w = true
  | [], i, w, h, e => by simp at e
  | x :: ws, 0, w, h, e => by simp at e; subst e; simp [noRefK] at h; exact h.1
  | x :: ws, i + 1, w, h, e => by simp [noRefK] at h; exact noRefK_get (i := i) h.2 (by simpa using e)
theorem noRefT_get : ∀ {ws : List (List Key × W)} {i : Nat} {w : W}, noRefT ws = true → (ws.map (·.2))[i]? = some w → noRef w = true
  | [], i, w, h, e => by simp at e
  | x :: ws, 0, w, h, e => by simp at e; subst e; simp [noRefT] at h; exact h.1
  | x :: ws, i + 1, w, h, e => by simp [noRefT] at h; exact noRefT_get (i := i) h.2 (by simpa using e)
theorem noRefF_get : ∀ {ws : List (Str × W)} {i : Nat} {w : W}, noRefF ws = true → (ws.map (·.2))[i]? = some w → noRef w = true
  | [], i, w, h, e => by simp at e
  | x :: ws, 0, w, h, e => by simp at e; subst e; simp [noRefF] at h; exact h.1
  | x :: ws, i + 1, w, h, e => by simp [noRefF] at h; exact noRefF_get (i := i) h.2 (by simpa using e)
def Cell.noRef : Cell → Bool
  | .lst ws => noRefs ws
  | .dK kvs => noRefK kvs
  | .dT kvs => noRefT kvs
  | .ins _ fs => noRefF fs
section
variable {K : PySem.W.Frag} {mg : Str → Option Value} {ea : EA} {io io' : List Addr} {Fr Fr' : Addr → Prop} {s s' s2 : S} {σ σ' : L2.St} {H H' : Hp} {w : W} {v : V} {c : Cell} {o : HO} {a p C : Addr} {ws : List W} {vs : List V} {M M' : Addr → Prop} {Wx : WX}
theorem Rw.noRef (h : Rw K mg io M H w v) (n : Z.noRef w = true) : Rw K mg io' M H w v := by
  induction h with
  | non => exact .non
  | bl b => exact .bl b
  | int i => exact .int i
  | str x => exact .str x
  | byt b => exact .byt b
  | tup h l q ih => exact .tup h l fun i w v a b => ih i w v a b (noRefs_get (by simpa [Z.noRef] using n) a)
  | frl h l q ih => exact .frl h l fun i w v a b => ih i w v a b (noRefs_get (by simpa [Z.noRef] using n) a)
  | lst h k l q ih => exact .lst h k l fun i w v a b => ih i w v a b (noRefs_get (by simpa [Z.noRef] using n) a)
  | dK h k l q ih => exact .dK h k l fun i w v a b => ih i w v a b (noRefK_get (by simpa [Z.noRef] using n) a)
  | dT h k l q ih => exact .dT h k l fun i w v a b => ih i w v a b (noRefT_get (by simpa [Z.noRef] using n) a)
  | dF h k l q ih => exact .dF h k l fun i w v a b => ih i w v a b (noRefT_get (by simpa [Z.noRef] using n) a)
  | obj m h k l q ih => exact .obj m h k l fun i w v a b => ih i w v a b (noRefF_get (by simpa [Z.noRef] using n) a)
  | slt m h k h2 k2 l q ih => exact .slt m h k h2 k2 l fun i w v a b => ih i w v a b (noRefs_get (by simpa [Z.noRef] using n) a)
  | ref h => simp [Z.noRef] at n
theorem Rc.noRef (h : Rc K mg io M H c o) (n : c.noRef = true) : Rc K mg io' M H c o := by
  cases c with
  | lst ws => obtain ⟨vs, e, h⟩ := h; exact ⟨vs, e, h.1, fun i w v a b => (h.2 i w v a b).noRef (noRefs_get n a)⟩
  | dK ws => obtain ⟨vs, e, h⟩ := h; exact ⟨vs, e, h.1, h.2.1, fun i w v a b => (h.2.2 i w v a b).noRef (noRefK_get n a)⟩
  | dT ws => obtain ⟨vs, e, h⟩ := h; exact ⟨vs, e, h.1, h.2.1, fun i w v a b => (h.2.2 i w v a b).noRef (noRefT_get n a)⟩
  | ins nm ws => obtain ⟨C, dx, vs, e, m, h⟩ := h; exact ⟨C, dx, vs, e, m, h.1, h.2.1, fun i w v a b => (h.2.2 i w v a b).noRef (noRefF_get n a)⟩
theorem child {α β : Type} {l1 : List α} {l2 : List β} (l : l1.length = l2.length) {i : Nat} {x : α} (a : l1[i]? = some x) : ∃ y, l2[i]? = some y :=
  ⟨_, List.getElem?_eq_getElem (by rw [← l]; exact get_lt a)⟩
theorem keys_len {κ α β : Type} {l1 : List (κ × α)} {l2 : List (κ × β)} (l : l1.map (·.1) = l2.map (·.1)) : (l1.map (·.2)).length = (l2.map (·.2)).length := by
  have := congrArg List.length l
  simpa using this
theorem Rw.shrink {more : List Addr} {H0 : Hp} {M0 : Addr → Prop} {v0 : V} (h0 : Rw K mg io M0 H0 w v0) : ∀ {v : V}, Rw K mg (io ++ more) M H w v → Rw K mg io M H w v := by
  induction h0 with
  | non => intro v h; cases h; exact .non
  | bl b => intro v h; cases h; exact .bl b
  | int i => intro v h; cases h; exact .int i
  | str x => intro v h; cases h; exact .str x
  | byt b => intro v h; cases h; exact .byt b
  | tup h l q ih =>
    intro v h'
    cases h' with
    | tup k1 k2 k3 =>
      refine .tup k1 k2 fun i w v a b => ?_
      obtain ⟨u, hu⟩ := child l a
      exact ih i w u a hu (k3 i w v a b)
  | frl h l q ih =>
    intro v h'
    cases h' with
    | frl k1 k2 k3 =>
      refine .frl k1 k2 fun i w v a b => ?_
      obtain ⟨u, hu⟩ := child l a
      exact ih i w u a hu (k3 i w v a b)
  | lst h n l q ih =>
    intro v h'
    cases h' with
    | lst k0 k1 k2 k3 =>
      refine .lst k0 k1 k2 fun i w v a b => ?_
      obtain ⟨u, hu⟩ := child l a
      exact ih i w u a hu (k3 i w v a b)
  | dK h n l q ih =>
    intro v h'
    cases h' with
    | dK k0 k1 k2 k3 =>
      refine .dK k0 k1 k2 fun i w v a b => ?_
      obtain ⟨u, hu⟩ := child (keys_len l) a
      exact ih i w u a hu (k3 i w v a b)
  | dT h n l q ih =>
    intro v h'
    cases h' with
    | dT k0 k1 k2 k3 =>
      refine .dT k0 k1 k2 fun i w v a b => ?_
      obtain ⟨u, hu⟩ := child (keys_len l) a
      exact ih i w u a hu (k3 i w v a b)
  | dF h n l q ih =>
    intro v h'
    cases h' with
    | dF k0 k1 k2 k3 =>
      refine .dF k0 k1 k2 fun i w v a b => ?_
      obtain ⟨u, hu⟩ := child (keys_len l) a
      exact ih i w u a hu (k3 i w v a b)
  | obj m h n l q ih =>
    intro v h'
    cases h' with
    | obj k00 k0 k1 k2 k3 =>
      refine .obj k00 k0 k1 k2 fun i w v a b => ?_
      obtain ⟨u, hu⟩ := child (keys_len l) a
      exact ih i w u a hu (k3 i w v a b)
  | slt m h n h2 n2 l q ih =>
    intro v h'
    cases h' with
    | slt k0 k1 k2 k3 k4 k5 k6 =>
      refine .slt k0 k1 k2 k3 k4 k5 fun i w v a b => ?_
      obtain ⟨u, hu⟩ := child l a
      exact ih i w u a hu (k6 i w v a b)
  | ref h =>
    intro v h'
    cases h' with
    | ref k =>
      rw [List.getElem?_append_left (get_lt h)] at k
      exact .ref k
theorem Rws.shrink {more : List Addr} {H0 : Hp} {M0 : Addr → Prop} {vs0 : List V} (h0 : Rws K mg io M0 H0 ws vs0) (h : Rws K mg (io ++ more) M H ws vs) : Rws K mg io M H ws vs := ⟨h.1, fun i w v a b => by
  obtain ⟨u, _, r⟩ := h0.get a
  exact r.shrink (h.2 i w v a b)⟩
theorem Rc.shrink {more : List Addr} {H0 : Hp} {M0 : Addr → Prop} {o0 : HO} (h0 : Rc K mg io M0 H0 c o0) (h : Rc K mg (io ++ more) M H c o) : Rc K mg io M H c o := by
  cases c with
  | lst ws => obtain ⟨vs, e, h⟩ := h; obtain ⟨vs0, _, h0⟩ := h0; exact ⟨vs, e, h0.shrink h⟩
  | dK ws => obtain ⟨vs, e, h⟩ := h; obtain ⟨vs0, _, h0⟩ := h0; exact ⟨vs, e, h.1, h0.2.shrink h.2⟩
  | dT ws => obtain ⟨vs, e, h⟩ := h; obtain ⟨vs0, _, h0⟩ := h0; exact ⟨vs, e, h.1, h0.2.shrink h.2⟩
  | ins nm ws => obtain ⟨C, dx, vs, e, m, h⟩ := h; obtain ⟨_, _, _, _, _, h0⟩ := h0; exact ⟨C, dx, vs, e, m, h.1, h0.2.shrink h.2⟩
theorem GSim.pop {G : List Cell} (g0 : GSim K mg io Fr G H) (g : GSim K mg (io ++ [a]) Fr' (G ++ [c]) H') (h : ∀ b, Fr b → Fr' b) (m : ∀ b, Mu io Fr' b → Mu io Fr b) : GSim K mg io Fr' G H' where
  len := g0.len
  cell := fun n b c' h1 h2 => by
    obtain ⟨o, e, r⟩ := g.cell n b c' (by rw [List.getElem?_append_left (get_lt h1)]; exact h1) (by rw [List.getElem?_append_left (get_lt h2)]; exact h2)
    obtain ⟨o0, _, r0⟩ := g0.cell n b c' h1 h2
    exact ⟨o, e, r0.shrink (r.pers (.less fun x z => z.imp (fun z => List.mem_append_left _ z) id))⟩
  nd := g0.nd
  dj := fun x hx => g.dj x (List.mem_append_left _ hx)
  fr := g.fr
open Classical in
noncomputable def makeG (nm : Str) (m : Fn) (ws : List W) : Mo RV := fun s => match m (.ref s.G.length :: ws) (s.G ++ [.ins nm []]) with
  | some (.ok (.val .non), G') => match G'.drop s.G.length with
    | [c] => if G'.take s.G.length = s.G ∧ c.noRef = true then some (.ok (.own c), s) else none
    | _ => none
  | some (.error x, G') => if G'.take s.G.length = s.G ∧ noRefF x.fs = true ∧ G'.length = s.G.length + 1 then some (.error x, s) else none
  | _ => none
theorem Sim.pushIns {x dx : Addr} {nm : Str} (S0 : Sim K mg ea io Fr s σ H) (hC : mg nm = some (.ref C)) (hx : H x = none) (hdx : H dx = none) (ne : dx ≠ x) :
    GSim K mg (io ++ [x]) (FrO Fr s.r σ) (s.G ++ [.ins nm []]) (upd (upd H dx (.own x)) x (.ins C dx [])) ∧ Stp io (Ms io Fr s σ) (FrO Fr s.r σ) H (io ++ [x]) (Mu (io ++ [x]) (FrO Fr s.r σ)) (upd (upd H dx (.own x)) x (.ins C dx [])) := by
  have kp : ∀ b u, H b = some u → upd (upd H dx (.own x)) x (.ins C dx []) b = some u := fun b u e => by
    rw [upd_ne (ne_of_none e hx), upd_ne (ne_of_none e hdx)]; exact e
  have same : ∀ b, Ms io Fr s σ b → upd (upd H dx (.own x)) x (.ins C dx []) b = H b := fun b z => by
    obtain ⟨u, e⟩ := S0.trk z
    rw [kp b u e, e]
  have nM : ¬ Ms io Fr s σ x := fun z => by
    obtain ⟨u, e⟩ := S0.trk z
    rw [hx] at e; cases e
  have q : Pers io (Ms io Fr s σ) H (io ++ [x]) (Mu (io ++ [x]) (FrO Fr s.r σ)) (upd (upd H dx (.own x)) x (.ins C dx [])) := ⟨fun b u e _ => kp b u e, fun b z => by
    rcases z with z | z
    · rcases List.mem_append.mp z with z | z
      · exact .inl (.inl z)
      · rw [List.mem_singleton] at z; exact .inr (by rw [z]; exact hx)
    · exact .inl (.inr z), fun n b e => by rw [List.getElem?_append_left (get_lt e)]; exact e⟩
  refine ⟨⟨by simp [S0.g.len], fun n b c h1 h2 => ?_, ?_, fun b hb z => ?_, fun b z => ?_⟩, q, fun b z => same b (.inr z), fun b u e => ⟨u, kp b u e⟩⟩
  · rcases Nat.lt_or_ge n io.length with hl | hl
    · rw [List.getElem?_append_left hl] at h1
      rw [List.getElem?_append_left (by rw [← S0.g.len]; exact hl)] at h2
      obtain ⟨u, e, r⟩ := S0.g.cell n b c h1 h2
      exact ⟨u, kp b u e, r.pers q⟩
    · rw [List.getElem?_append_right hl] at h1
      rw [List.getElem?_append_right (by rw [← S0.g.len]; exact hl), ← S0.g.len] at h2
      have e0 : n - io.length = 0 := by
        have := get_lt h1
        simpa using this
      rw [e0] at h1 h2
      simp at h1 h2
      subst h1; subst h2
      exact ⟨_, upd_same, C, dx, [], rfl, hC, Rkv.nil⟩
  · rw [List.nodup_append]
    refine ⟨S0.g.nd, by simp, fun b hb c hc => ?_⟩
    rw [List.mem_singleton] at hc
    subst hc
    exact fun z => nM (.inl (z ▸ hb))
  · rcases List.mem_append.mp hb with h | h
    · exact S0.g.dj b h z
    · rw [List.mem_singleton] at h
      subst h
      exact nM (.inr z)
  · obtain ⟨u, e, n⟩ := S0.g.fr b z
    exact ⟨u, kp b u e, n⟩
theorem make_use {n : Nat} {m : Fn} {nm : Str} {x dx : Addr} (S0 : Sim K mg ea io Fr s σ H) (R : Rws K mg io (Ms io Fr s σ) H ws vs) (hn : vs.length + 1 = n) (hC : mg nm = some (.ref C)) (hx : H x = none) (hdx : H dx = none) (ne : dx ≠ x)
    {r : Except Ex RV} (e : makeG nm m ws s = some (r, s')) {Q : VK}
    (hok : ∀ x, r = .ok x → ∀ v H' io', PostE K mg ea io Fr s σ H s' io' H' x v → Q v H') (hex : ∀ x, r = .error x → ∀ cls d H' io', PostX K mg ea io Fr s σ H s' σ io' H' x cls d → Wx cls d σ H') :
    spM K mg n m (.ref x :: vs) (upd (upd H dx (.own x)) x (.ins C dx [])) (fun v H2 => v = .non ∧ Q (.ref x) H2) (WE Wx σ) := by
  obtain ⟨g1, T1⟩ := S0.pushIns hC hx hdx ne
  have R1 : Rws K mg (io ++ [x]) (Mu (io ++ [x]) (FrO Fr s.r σ)) (upd (upd H dx (.own x)) x (.ins C dx [])) (.ref s.G.length :: ws) (.ref x :: vs) :=
    Rws.cons (.ref (by rw [← S0.g.len, List.getElem?_append_right (Nat.le_refl _)]; simp)) (R.pers T1.p)
  have nown : ∀ a (i : Nat) c, s.r[i]? = some (.own c) → σ[i]? = some (some (V.ref a)) → ¬ Fr a := fun a i c h1 h2 => by
    obtain ⟨b, o, q1, _, _, q4⟩ := S0.own i c h1
    rw [h2] at q1; cases q1
    exact q4
  have nFx : ¬ FrO Fr s.r σ x := g1.dj x (by simp)
  unfold makeG at e
  have last : ∀ {G' : List Cell} {io' : List Addr} {H' : Hp}, GSim K mg io' (FrO Fr s.r σ) G' H' → Stp (io ++ [x]) (Mu (io ++ [x]) (FrO Fr s.r σ)) (FrO Fr s.r σ) (upd (upd H dx (.own x)) x (.ins C dx [])) io' (Mu io' (FrO Fr s.r σ)) H' →
      G'.length = s.G.length + 1 → G'.take s.G.length = s.G → ∃ c, G' = s.G ++ [c] ∧ io' = io ++ [x] := fun {G' io' H'} g T hl ht => by
    have hl2 : io'.length = io.length + 1 := by rw [g.len, hl, S0.g.len]
    refine ⟨G'[s.G.length]'(by omega), ?_, ?_⟩
    · conv => lhs; rw [← List.take_append_drop s.G.length G', ht]
      congr 1
      rw [drop_get (by omega), List.drop_eq_nil_of_le (by omega)]
    · apply List.ext_getElem?
      intro i
      rcases Nat.lt_or_ge i (io ++ [x]).length with q | q
      · rw [List.getElem?_eq_getElem q]
        exact T.p.ext i _ (List.getElem?_eq_getElem q)
      · rw [List.getElem?_eq_none (by simp only [List.length_append, List.length_singleton] at q; omega), List.getElem?_eq_none q]
  split at e
  · rename_i G' k
    split at e
    · rename_i c hd
      split at e
      · rename_i hc
        cases e
        refine ⟨by simpa using hn, io ++ [x], FrO Fr s.r σ, _, _, _, G', g1, R1, k, fun f q v H' io' p => ?_, (fun _ q => by cases q)⟩
        cases q
        obtain ⟨g, T, r⟩ := p
        cases r
        refine ⟨rfl, ?_⟩
        have hl : G'.length = s.G.length + 1 := by
          have := congrArg List.length hd
          simp only [List.length_drop, List.length_singleton] at this
          omega
        obtain ⟨c', hG, rfl⟩ := last g T hl hc.1
        have hcc : c' = c := by
          rw [hG, List.drop_left] at hd
          simpa using hd
        subst hcc
        subst hG
        obtain ⟨o, ho, rc⟩ := g.cell io.length x c' (by rw [List.getElem?_append_right (Nat.le_refl _)]; simp) (by rw [S0.g.len, List.getElem?_append_right (Nat.le_refl _)]; simp)
        have le : ∀ b, Mu io (FrO (pls Fr x) s.r σ) b → Mu (io ++ [x]) (FrO Fr s.r σ) b := fun b z => by
          rcases z with z | z
          · exact .inl (List.mem_append_left _ z)
          · rcases (fro_pls b).1 z with z | z
            · exact .inr z
            · exact .inl (by rw [z]; simp)
        have ge : ∀ b, Mu (io ++ [x]) (FrO Fr s.r σ) b → Mu io (pls (FrO Fr s.r σ) x) b := fun b z => by
          rcases z with z | z
          · rcases List.mem_append.mp z with z | z
            · exact .inl z
            · rw [List.mem_singleton] at z; exact .inr (.inr z)
          · exact .inr (.inl z)
        have gp : GSim K mg io (FrO (pls Fr x) s.r σ) s.G H' := by
          refine ⟨S0.g.len, fun n b c2 h1 h2 => ?_, S0.g.nd, fun b hb z => ?_, fun b z => ?_⟩
          · obtain ⟨u, e1, r1⟩ := g.cell n b c2 (by rw [List.getElem?_append_left (get_lt h1)]; exact h1) (by rw [List.getElem?_append_left (get_lt h2)]; exact h2)
            obtain ⟨u0, _, r0⟩ := S0.g.cell n b c2 h1 h2
            exact ⟨u, e1, r0.shrink (r1.pers (.less le))⟩
          · rcases (fro_pls b).1 z with z | z
            · exact S0.g.dj b hb z
            · subst z
              have := g.nd
              rw [List.nodup_append] at this
              exact this.2.2 b hb b (by simp) rfl
          · rcases (fro_pls b).1 z with z | z
            · exact g.fr b z
            · exact ⟨o, by rw [z]; exact ho, rc.nt⟩
        have TT := T1.trans T
        have T2 : Stp io (Ms io Fr s σ) (FrO Fr s.r σ) H io (Mu io (FrO (pls Fr x) s.r σ)) H' := ⟨⟨TT.p.keep, fun b z => TT.p.new b (le b z), fun _ _ e => e⟩, TT.fr, TT.trk⟩
        refine hok _ rfl _ H' io ⟨x, o, rfl, ho, nFx, S0.call gp T2 fun b i c2 h1 h2 z => ?_, T2.frless fun b z => .inl z, (rc.pers (.less le)).noRef hc.2⟩
        rcases z with z | z
        · exact nown b i c2 h1 h2 z
        · subst z
          exact nFx (.inr ⟨i, c2, h1, h2⟩)
      · cases e
    · cases e
  · rename_i xx G' k
    split at e
    · rename_i hc
      cases e
      refine ⟨by simpa using hn, io ++ [x], FrO Fr s.r σ, _, _, _, G', g1, R1, k, (fun _ q => by cases q), fun x' q cls d H' io' p => ?_⟩
      cases q
      obtain ⟨g, T, xr⟩ := p
      obtain ⟨c', hG, rfl⟩ := last g T hc.2.2 hc.1
      subst hG
      have le : ∀ b, Mu io (FrO Fr s.r σ) b → Mu (io ++ [x]) (FrO Fr s.r σ) b := fun b z => z.imp (fun z => List.mem_append_left _ z) id
      have gp : GSim K mg io (FrO Fr s.r σ) s.G H' := S0.g.pop g (fun _ z => z) fun b z => z
      have TT := T1.trans T
      have T2 : Stp io (Ms io Fr s σ) (FrO Fr s.r σ) H io (Mu io (FrO Fr s.r σ)) H' := ⟨⟨TT.p.keep, fun b z => TT.p.new b (le b z), fun _ _ e => e⟩, TT.fr, TT.trk⟩
      refine hex _ rfl cls d H' io ⟨S0.call gp T2 nown, T2.frless fun b z => .inl z, ?_⟩
      obtain ⟨C2, y1, y2, y3⟩ := xr
      refine ⟨C2, y1, y2, y3.imp id ?_⟩
      rintro ⟨dd, us, z1, z2, z3, z4⟩
      exact ⟨dd, us, z1, z2, fun z => z3 (le _ z), z4.1, z4.2.1, fun i w v a b => ((z4.2.2 i w v a b).pers (.less le)).noRef (noRefF_get hc.2.1 a)⟩
    · cases e
  · cases e
noncomputable def mMake (nm : Str) (n : Nat) (m : Fn) (ds : List W) (ms : Mo (List RV)) : Mo RV := bnd ms fun xs => bnd (freezeAll xs) fun ws => if (ws ++ ds).length + 1 = n then makeG nm m (ws ++ ds) else stk
theorem ref_make {n : Nat} {m : Fn} {nm : Str} {t : TA} {ms : Mo (List RV)} {ds : List W} {dvs : List V} (hC : mg nm = some (.ref C)) (hd : Dfl K mg ds dvs) (ha : RefA K mg ea Wx t ms) :
    RefE K mg ea Wx (tMakeS C (spM K mg n m) dvs (WE Wx) t) (mMake nm n m ds ms) := by
  intro σ H io Fr s S0 r0 s' e Q hok hex
  refine arg2 ha S0 e hex fun xs vs s1 H1 io1 e2 px R1 => ?_
  rcases bnd_some e2 with ⟨x, e3, rfl⟩ | ⟨ws, s2, e3, e4⟩
  · obtain ⟨_, _, _, _, q, _⟩ := freezeAll_ok px.1 R1 e3
    cases q
  · obtain ⟨_, m2, S2, ws', q, r2⟩ := freezeAll_ok px.1 R1 e3
    cases q
    split at e4
    · rename_i hn
      intro x dx hx hdx ne
      have T2 := px.2.less m2
      have RR := r2.append (hd io1 _ H1)
      exact make_use S2 RR (by rw [← RR.1]; exact hn) hC hx hdx ne e4 (fun x q v H' io' p => hok x q v H' io' (p.trans T2)) fun x q cls d H' io' p => hex x q cls d H' io' ⟨p.1, T2.trans p.2.1, p.2.2⟩
    · cases e4
end
section
variable {X : Cx} {ea : EA} {Wx : WX} {e o : Expr} {es : List Expr} {mo mv : Mo RV} {ms : Mo (List RV)} {m : Fn} {k : Nat} {f C : Addr} {fd : FuncData} {ps : List Str} {x : Str} {p pos apos tpos : Pos} {ds : List Value} {dw : List W} {dvs : List V}
theorem pee_make (hC : X.mg x = some (.ref C)) (M : Mk X.K C f) (F : FnM X.prog X.w X.K X.mg X.base k f fd ps m) (hr : Room (k + 1) X.A) (hb : Binds X.K fd ps ds) (hd : Vals dvs ds) (hw : Dfl X.K X.mg dw dvs) (tk : Takes X Wx) (ha : Pea X ea Wx (e :: es) ms) (hg : Gl X x := by rfl)
    (hdb : (x == ("__debug__" : Str)) = false := by decide) (he : starEach (e :: es) X.env = (false, eval e X.env) :: starEach es X.env := by rfl) (hpl : (backTo pos (starEach es X.env)).any (·.1) = false := by rfl) :
    Pee X ea Wx (.Call (.Name x p) (e :: es) [] pos) (mMake x ps.length m dw ms) := by
  obtain ⟨t, q, r⟩ := ha.ex
  exact ⟨_, pe_makeS M F.ok hr hg hC hb hd (fun σ => passAt tk σ) q hdb he hpl, ref_make hC hw r⟩
end
end Z
set_option Elab.async false
set_option linter.all false
set_option maxRecDepth 100000
namespace Z
open PySem PySem.Spec PyProof.Rows L2
section
variable {K : PySem.W.Frag} {mg : Str → Option Value} {ea : EA} {io io' : List Addr} {Fr Fr' : Addr → Prop} {s s' s2 : S} {σ σ' : L2.St} {H H' : Hp} {w : W} {v : V} {c : Cell} {o : HO} {a p C : Addr} {ws : List W} {vs : List V} {M M' : Addr → Prop} {Wx : WX}
def spXI (K : PySem.W.Frag) (fs : List Str) : Sp := fun vs H Q _ => ∃ (a C : Addr) (us : List V), vs = .ref a :: us ∧ us.length = fs.length ∧ H a = some (exo a C none) ∧ OexC K C ∧ (∀ f ∈ fs, PySem.W.findIn K (.ref C) f = some none) ∧
  ∀ dx H', H dx = none → dx ≠ a → H' a = some (exo a C (some dx)) → H' dx = some (exd dx (fs.zip us).reverse) → (∀ b, b ≠ a → b ≠ dx → H' b = H b) → Q .non H'
section
variable {P : Program} {w : World} {base : Heap} {x qual : Str} {st : Stmt} {f : Addr} {fd : FuncData} {N : List Str} {f1 f2 f3 n1 n2 n3 : Str}
theorem xi1 (F : Fun K x qual st f fd) (S : FnScope ["self", n1] ["self", n1] (defScope st))
    (hb : ∀ (cdv : Value) (A : Around) (outer : List Env) (s : Shared) (H : Hp) (E : XK), Room 0 (A.deeper (envOfC qual (defScope st) s.heap.objs.size f cdv)) →
      PSs (cxOf (L2.CX P w) P w K mg base ["self", n1] qual (defScope st) f cdv A outer s H E) (defBody st) (tOst K f1 (tVar 0) (tVar 1))) : FnOk P w K mg base (L2.CX P w) 1 f fd ["self", n1] (spXI K [f1]) := by
  refine F.okX S (fun vs H Q E h => ?_) fun cdv A outer s H vs Q E hr h => ?_
  · obtain ⟨a, C, us, rfl, hl, _⟩ := h
    simpa using hl
  · obtain ⟨a, C, us, rfl, hl, ha, T, hf, q⟩ := h
    obtain ⟨u, rfl⟩ : ∃ u, us = [u] := by
      match us, hl with
      | [u], _ => exact ⟨u, rfl⟩
    refine ⟨_, hb cdv A outer s H E hr, _, rfl, _, rfl, a, C, rfl, T, hf _ (by simp), .inl ⟨ha, fun dx hd ne => ?_⟩⟩
    exact q dx _ hd ne (by rw [upd_same]) (by rw [upd_ne ne, upd_same]; rfl) fun b h1 h2 => by rw [upd_ne h1, upd_ne h2]
end
def mRaise (nm : Str) (fs : List Str) (ms : Mo (List RV)) : Mo Fl := bnd ms fun xs => bnd (freezeAll xs) fun ws => if ws.length = fs.length ∧ ws.length ≤ 1000 then raiseM ⟨nm, (fs.zip ws).reverse⟩ else stk
def mRaise0 (nm : Str) : Mo Fl := raiseM ⟨nm, []⟩
theorem Rkv.append {κ : Type} {ws ws' : List (κ × W)} {vs vs' : List (κ × V)} (h : Rkv K mg io M H ws vs) (t : Rkv K mg io M H ws' vs') : Rkv K mg io M H (ws ++ ws') (vs ++ vs') :=
  ⟨by simp [h.1, t.1], by simpa using h.2.append t.2⟩
theorem Rkv.zipRev : ∀ {fs : List Str} {ws : List W} {vs : List V}, ws.length = fs.length → Rws K mg io M H ws vs → Rkv K mg io M H (fs.zip ws).reverse (fs.zip vs).reverse
  | [], ws, vs, hl, r => by simp; exact Rkv.nil
  | f :: fs, [], vs, hl, r => by simp at hl
  | f :: fs, w :: ws, vs, hl, r => by
    obtain ⟨v, t, rfl, h1, h2⟩ := r.cons_inv
    simp only [List.zip_cons_cons, List.reverse_cons]
    exact (Rkv.zipRev (by simpa using hl) h2).append (Rkv.cons h1 Rkv.nil)
theorem ref_raise {nm : Str} {fs : List Str} {ta : TA} {ms : Mo (List RV)} (hC : mg nm = some (.ref C)) (T : OexC K C) (hf : ∀ f ∈ fs, PySem.W.findIn K (.ref C) f = some none) (ha : RefA K mg ea Wx ta ms) (nz : fs ≠ []) :
    RefS K mg ea Wx (fun _ σ H => tMkO C (spXI K fs) [] ta σ H fun cls d H' => Wx cls d σ H') (mRaise nm fs ms) := by
  intro σ H io Fr s S0 r0 s' e D hnx hbk hct hrt hex
  refine arg2 ha S0 e (fun x q cls d H' io' px => hex x q cls d σ H' io' px) fun xs vs s1 H1 io1 e2 px R1 => ?_
  rcases bnd_some e2 with ⟨x, e3, rfl⟩ | ⟨ws, s2, e3, e4⟩
  · obtain ⟨_, _, _, _, q, _⟩ := freezeAll_ok px.1 R1 e3
    cases q
  · obtain ⟨_, m2, S2, ws', q, r2⟩ := freezeAll_ok px.1 R1 e3
    cases q
    split at e4
    · rename_i hn
      cases e4
      refine ⟨by rw [← r2.1]; exact hn.2, fun a ha => ⟨a, C, vs, by simp, by rw [← r2.1]; exact hn.1, upd_same, T, hf, fun dx H' hd ne e1 e2 e3 => ⟨rfl, dx, _, e1, e2, ?_, ?_⟩⟩⟩
      · rw [upd_ne ne] at hd; exact hd
      · have hd1 : H1 dx = none := by rw [upd_ne ne] at hd; exact hd
        have eH : upd (del H' a) dx (.xd (fs.zip vs).reverse) = upd H1 dx (.xd (fs.zip vs).reverse) := by
          funext b
          by_cases hb : b = dx
          · subst hb; rw [upd_same, upd_same]
          · rw [upd_ne hb, upd_ne hb]
            by_cases hba : b = a
            · subst hba; rw [del_same, ha]
            · rw [del_ne hba, e3 b hba hb, upd_ne hba]
        rw [eH]
        obtain ⟨S3, T3⟩ := S2.laid (o := .xd (fs.zip vs).reverse) hd1
        refine hex _ rfl _ _ σ _ io1 ⟨S3, (px.2.less m2).trans T3, C, hC, rfl, .inr ⟨dx, _, rfl, upd_same, fun z => ?_, Rkv.zipRev hn.1 (r2.pers T3.p)⟩⟩
        obtain ⟨u, e⟩ := S2.trk z
        rw [hd1] at e; cases e
    · cases e4
theorem ref_raise0 {nm : Str} (hC : mg nm = some (.ref C)) : RefS K mg ea Wx (fun _ σ H => (fun (_ : L2.St) (H : Hp) (Q : XK) => Q (.ref C) none H) σ H fun cls d H' => Wx cls d σ H') (mRaise0 nm) := by
  intro σ H io Fr s S0 r0 s' e D hnx hbk hct hrt hex
  cases e
  exact hex _ rfl _ _ σ H io ⟨S0, .refl, C, hC, rfl, .inl ⟨rfl, rfl⟩⟩
end
section
variable {X : Cx} {ea : EA} {Wx : WX} {e o : Expr} {es : List Expr} {ms : Mo (List RV)} {k : Nat} {f C : Addr} {fd : FuncData} {ps fs : List Str} {x : Str} {p pos pos' : Pos}
theorem pes_raise (hC : X.mg x = some (.ref C)) (T : OexC X.K C) (hf : ∀ f ∈ fs, PySem.W.findIn X.K (.ref C) f = some none) (nz : fs ≠ []) (iC : PySem.W.findIn X.K (.ref C) "__init__" = some (some (.ref f))) (tI : PySem.W.typeIn X.K (.ref f) = some (.type "function"))
    (F1 : FnOk X.prog X.w X.K X.mg X.base (L2.CX X.prog X.w) k f fd ps (spXI X.K fs)) (hr : Room (k + 1) X.A) (hb : Binds X.K fd ps []) (tk : Takes X Wx) (ha : Pea X ea Wx (e :: es) ms) (hc : X.calm = true := by rfl) (hg : Gl X x := by rfl)
    (hdb : (x == ("__debug__" : Str)) = false := by decide) (he : starEach (e :: es) X.env = (false, eval e X.env) :: starEach es X.env := by rfl) (hpl : (backTo pos (starEach es X.env)).any (·.1) = false := by rfl) :
    Pes X ea Wx (.Raise (some (.Call (.Name x p) (e :: es) [] pos)) none pos') (mRaise x fs ms) := by
  obtain ⟨t, q, r⟩ := ha.ex
  exact ⟨_, ps_raise hc tk (pmk_oex T iC tI F1 hr hb .nil passL hg hC q hdb he hpl), ref_raise hC T hf r nz⟩
end
end Z
set_option Elab.async false
set_option linter.all false
set_option maxRecDepth 100000
namespace Z
open PySem PySem.Spec PyProof.Rows L2
abbrev HdT := Value × Option Nat × (Addr → Value → Option Addr → TS)
def endsAt (i : Nat) (D : Ends) : Ends := { nx := fun σ' H' => D.nx (σ'.set i none) H', rt := D.rt, bk := fun σ' H' => D.bk (σ'.set i none) H', ct := fun σ' H' => D.ct (σ'.set i none) H' }
def wHds (K : PySem.W.Frag) (Wout : WX) (D : Ends) : List HdT → WX
  | [] => Wout
  | (c, none, ts) :: r => fun cls d σ H => ∃ b, PySem.W.exmOne K cls c = some b ∧ (b = true → ∀ a, H a = none → ts a cls d D σ H) ∧ (b = false → wHds K Wout D r cls d σ H)
  | (c, some i, ts) :: r => fun cls d σ H => ∃ b, PySem.W.exmOne K cls c = some b ∧ (b = true → ∀ a, H a = none → ts a cls d (endsAt i D) (σ.set i (some (.ref a))) H) ∧ (b = false → wHds K Wout D r cls d σ H)
inductive HdsN (X : Cx) : List ExceptHandler → List HdT → Prop
  | nil : HdsN X [] []
  | cons {x : Str} {c : Value} {ts : Addr → Value → Option Addr → TS} {b₀ : Stmt} {suite : List Stmt} {np pos' : Pos} {hds : List ExceptHandler} {l : List HdT} (hc : Names X x c)
      (hsu : ∀ (a : Addr) (oe : Obj) (cls : Value) (d : Option Addr) (pn : List (Addr × Obj)), Zc cls d oe → (∃ vs, oe.data = .fields vs) → PSs (X.suite a ((a, oe) :: pn)) (b₀ :: suite) (ts a cls d)) (r : HdsN X hds l) :
      HdsN X (.ExceptHandler (some (.Name x np)) none (b₀ :: suite) pos' :: hds) ((c, none, ts) :: l)
  | consAs {x n : Str} {c : Value} {i : Nat} {ts : Addr → Value → Option Addr → TS} {b₀ : Stmt} {suite : List Stmt} {np pos' : Pos} {hds : List ExceptHandler} {l : List HdT} (hc : Names X x c) (hi : X.N[i]? = some n) (hln : X.env.kindOf n = some .local)
      (hsu : ∀ (a : Addr) (oe : Obj) (cls : Value) (d : Option Addr) (pn : List (Addr × Obj)), Zc cls d oe → (∃ vs, oe.data = .fields vs) → PSs (X.suite a ((a, oe) :: pn)) (b₀ :: suite) (ts a cls d)) (r : HdsN X hds l) :
      HdsN X (.ExceptHandler (some (.Name x np)) (some n) (b₀ :: suite) pos' :: hds) ((c, some i, ts) :: l)
section
variable {X : Cx} {body : List Stmt} {h₀ : ExceptHandler} {hds : List ExceptHandler} {l : List HdT} {pos : Pos} {tb : WX → TS} {Wout : WX}
structure Got (X : Cx) (pl : List (Addr × Obj)) (a : Addr) (B : Heap) (sI : Shared) (σ : L2.St) (H : Hp) (cls : Value) (d : Option Addr) (s : Shared) : Prop where
  own : X.stack = X.env :: X.outer
  at_ : X.env.frame = some X.env.locals
  old : Inv X pl σ H sI
  nb : ∀ b o, sI.heap.get? b = some o → b ∉ frs X.stack → B.get? b = some o
  fly : HandSPX.FlyingZ B (X.env :: X.outer) a (Zc cls d) s.heap
  up : sI.heap.UpToSlots s.heap
  na : H a = none
  os : s.os = sI.os
  ag : AllBare s.gens
section
variable {pl : List (Addr × Obj)} {a : Addr} {B : Heap} {sI s : Shared} {σ : L2.St} {H : Hp} {cls c : Value} {d : Option Addr} {x n : Str} {np p2 : Pos} {D : Ends} {b0 : Stmt} {bs : List Stmt} {ts : Addr → Value → Option Addr → TS} {i : Nat}
theorem Got.inv (g : Got X pl a B sI σ H cls d s) : Inv X pl σ H s := g.old.landed g.nb g.fly.1 g.up g.os g.ag
theorem Got.move {h : Heap} (g : Got X pl a B sI σ H cls d s) (fl : HandSPX.FlyingZ B (X.env :: X.outer) a (Zc cls d) h) (u : s.heap.UpToSlots h) : Got X pl a B sI σ H cls d { s with heap := h } := { g with fly := fl, up := g.up.trans u }
theorem Got.noFrame (g : Got X pl a B sI σ H cls d s) : a ∉ frs (X.env :: X.outer) := fun hm => by
  obtain ⟨oe, us, e1, _, e2⟩ := g.fly.there
  obtain ⟨_, o2, e3, e4⟩ := g.fly.2.2.1.mem hm
  exact e4 us (by rw [← Option.some.inj (e1.symm.trans e3)]; exact e2)
theorem Got.inSuite (g : Got X pl a B sI σ H cls d s) : ∃ oe, s.heap.get? a = some oe ∧ Zc cls d oe ∧ (∃ us, oe.data = .fields us) ∧ Inv (X.suite a ((a, oe) :: (X.pn ++ pl))) [] σ H s := by
  obtain ⟨oe, us, e1, z, e2⟩ := g.fly.there
  have n1 : a ≠ X.env.locals := fun z => g.noFrame (List.mem_filterMap.mpr ⟨X.env, by simp, by rw [g.at_, z]⟩)
  have n2 : a ∉ X.fs := fun hm => let ⟨e, he, q⟩ := List.mem_filterMap.mp hm; g.noFrame (List.mem_filterMap.mpr ⟨e, List.mem_cons_of_mem _ he, q⟩)
  exact ⟨oe, e1, z, ⟨us, e2⟩, g.inv.suite e1 e2 g.na n1 n2⟩
theorem Got.asked {b : Bool} {R : Result → Shared → Prop} (g : Got X pl a B sI σ H cls d s) (nm : Names X x c) (hb : PySem.W.exmOne X.K cls c = some b) (h : R (.ok (if b then .brk else .next)) s) :
    codeAny (model X.prog X.w) (X.A.mark (some (.ref a))) (.handlers (.ref a) [.ExceptHandler (some (.Name x np)) none [] p2] X.env) R s := by
  obtain ⟨oe, e1, z, _, S⟩ := g.inSuite
  have look : PySem.W.Looks (model X.prog X.w) s.heap (typeOf (.ref a)) cls := fun _ _ _ _ k q => wpAny_typeOf_ref (k _ _ e1) (by rw [z.1]; exact q)
  refine codeAny_handlers_test ?_
  rcases nm with ⟨n1, n2, n3 | ⟨n3, n4, n5⟩⟩
  · exact ld_glob S n1 n3 ((PySem.W.exm_one g.inv.kIn look hb).here h) n2
  · exact ld_blt S n1 n3 n4 ((PySem.W.exm_one g.inv.kIn look hb).here h) n5 n2
theorem Got.unserved {Wout : WX} (g : Got X pl a B sI σ H cls d s) (tk : Takes X Wout) (w : Wout cls d σ H) : wpAny (model X.prog X.w) X.A (handleBy (.ref a) X.env []) (SP X pl D) X.xe s := by
  have thrown : wpAny (model X.prog X.w) X.A (setFlight (.ref a) X.env.frame) (fun _ s4 => wpAny (model X.prog X.w) X.A (throw (.ref a) : Sem Flow) (SP X pl D) X.xe s4) X.xe s := by
    rw [g.at_]
    exact HandSPX.setFlight_upZ g.fly fun h4 held u => wpAny_throw (tk _ _ ⟨a, B, sI, pl, σ, H, cls, d, rfl, g.old, g.nb, g.up.trans u, .inr (.inr (by rw [g.own]; exact held)), g.na, g.os, g.ag, w⟩)
  obtain ⟨_, _, _, oe, us, T, _, _, e1, _, e2, e3, _⟩ := id g.fly
  refine wpAny_handleBy_nil ?_
  unfold PySem.passOn
  refine wpAny_bind (wpAny_field e1 e2 e3 ?_)
  have nn : ¬ ((Value.ref T == Value.none) = true) := by simp
  rw [if_neg nn]
  first | exact wpAny_bind (wpAny_pure (wpAny_bind thrown)) | exact wpAny_bind thrown
theorem suite_end {q : Addr × Obj} {f : Flow} {s6 : Shared} (ok : X.Ok) (h : SP (X.suite a (q :: (X.pn ++ pl))) [] D f s6) : SP X pl D f s6 := by
  cases f with
  | ret u => exact let ⟨v, σ6, H6, S, r, k⟩ := h; ⟨v, σ6, H6, S.unsuite ok, r, k⟩
  | next => exact let ⟨σ6, H6, S, k⟩ := h; ⟨σ6, H6, S.unsuite ok, k⟩
  | brk => exact let ⟨σ6, H6, S, k⟩ := h; ⟨σ6, H6, S.unsuite ok, k⟩
  | cont => exact let ⟨σ6, H6, S, k⟩ := h; ⟨σ6, H6, S.unsuite ok, k⟩
theorem Got.runs {R : Result → Shared → Prop} (g : Got X pl a B sI σ H cls d s) (hsu : ∀ (a : Addr) (oe : Obj) (cls : Value) (d : Option Addr) (pn : List (Addr × Obj)), Zc cls d oe → (∃ vs, oe.data = .fields vs) → PSs (X.suite a ((a, oe) :: pn)) (b0 :: bs) (ts a cls d)) (w : ts a cls d D σ H) (h : ∀ f s6, SP X pl D f s6 → R (.ok f) s6) :
    codeAny (model X.prog X.w) (X.A.mark (some (.ref a))) (.handlers (.ref a) [.ExceptHandler none none (b0 :: bs) p2] X.env) R s := by
  refine codeAny_handlers_suite (HandSPX.lands_againZ g.fly fun h4 fl u => ?_)
  obtain ⟨oe, _, z, df, S⟩ := (g.move fl u).inSuite
  exact wpAny_mono ((hsu a oe cls d _ z df).run [] _ _ H _ S w) (fun f s6 q => h f s6 (suite_end g.inv.ok q)) fun _ _ z => z.elim
theorem Got.runsAs {R : Result → Shared → Prop} (g : Got X pl a B sI σ H cls d s) (hN : X.N.Nodup) (hi : X.N[i]? = some n) (hl : X.env.kindOf n = some .local) (hsu : ∀ (a : Addr) (oe : Obj) (cls : Value) (d : Option Addr) (pn : List (Addr × Obj)), Zc cls d oe → (∃ vs, oe.data = .fields vs) → PSs (X.suite a ((a, oe) :: pn)) (b0 :: bs) (ts a cls d))
    (w : ts a cls d (endsAt i D) (σ.set i (some (.ref a))) H) (h : ∀ f s6, wpAny (model X.prog X.w) X.A (do bindName X.env n .none; unbindBehindTheSuite X.env n p2) (fun _ s7 => SP X pl D f s7) X.xe s6 → R (.ok f) s6) :
    codeAny (model X.prog X.w) (X.A.mark (some (.ref a))) (.handlers (.ref a) [.ExceptHandler none (some n) (b0 :: bs) p2] X.env) R s := by
  refine codeAny_handlers_suite_as (HandSPX.lands_againZ g.fly fun h4 fl u => ?_)
  obtain ⟨oe, _, z, df, S⟩ := (g.move fl u).inSuite
  have at_ : Loc (X.suite a ((a, oe) :: (X.pn ++ pl))).env.scope n := .inl hl
  refine store_ok (X := X.suite a ((a, oe) :: (X.pn ++ pl))) (v := .ref a) (hx := at_) (hf := .inr hl) (hi := hi) (hN := hN) (r := rfl) S fun s5 S5 => ?_
  refine wpAny_mono ((hsu a oe cls d _ z df).run [] s5 _ H _ S5 w) (fun f s6 q => h f s6 ?_) fun _ _ z => z.elim
  have q := suite_end g.inv.ok q
  cases f with
  | ret u => exact let ⟨v, σ6, H6, J, r, k⟩ := q; gone_ok J hN hi hl fun s7 J7 => ⟨v, _, H6, J7, r, k⟩
  | next => exact let ⟨σ6, H6, J, k⟩ := q; gone_ok J hN hi hl fun s7 J7 => ⟨_, H6, J7, k⟩
  | brk => exact let ⟨σ6, H6, J, k⟩ := q; gone_ok J hN hi hl fun s7 J7 => ⟨_, H6, J7, k⟩
  | cont => exact let ⟨σ6, H6, J, k⟩ := q; gone_ok J hN hi hl fun s7 J7 => ⟨_, H6, J7, k⟩
theorem Got.all {Wout : WX} (tk : Takes X Wout) (hN : X.N.Nodup) {hds : List ExceptHandler} {l : List HdT} (hk : HdsN X hds l) : ∀ {s : Shared}, Got X pl a B sI σ H cls d s → wHds X.K Wout D l cls d σ H → wpAny (model X.prog X.w) X.A (handleBy (.ref a) X.env hds) (SP X pl D) X.xe s := by
  induction hk with
  | nil => exact fun g w => g.unserved tk w
  | cons nm hsu _ ih =>
    rintro s g ⟨b, hb, yes, no⟩
    refine wpAny_handleBy_cons (g.asked nm hb ?_) (by intro q; cases q)
    cases b with
    | true =>
      refine g.runs hsu (yes rfl a g.na) fun f s6 q => ?_
      exact q
    | false => exact ih g (no rfl)
  | consAs nm hi hl hsu _ ih =>
    rintro s g ⟨b, hb, yes, no⟩
    refine wpAny_handleBy_cons (g.asked nm hb ?_) (by intro q; cases q)
    cases b with
    | true =>
      refine g.runsAs hN hi hl hsu (yes rfl a g.na) fun f s6 q => ?_
      exact q
    | false => exact ih g (no rfl)
end
end
section
variable (K : PySem.W.Frag) (mg : Str → Option Value) (ea : EA) (Wx : WX)
def tsOf (m : Mo Fl) : TS := fun D σ H => ∃ io Fr s r s', Sim K mg ea io Fr s σ H ∧ m s = some (r, s') ∧
  (r = .ok .nx → ∀ σ' H' io', PostS K mg ea io Fr s σ H s' σ' io' H' → D.nx σ' H') ∧ (r = .ok .bk → ∀ σ' H' io', PostS K mg ea io Fr s σ H s' σ' io' H' → D.bk σ' H') ∧
  (r = .ok .ct → ∀ σ' H' io', PostS K mg ea io Fr s σ H s' σ' io' H' → D.ct σ' H') ∧ (∀ f, r = .ok (.rt f) → ∀ v H' io', PostF K mg io (Ms io Fr s σ) Fr H s'.G io' H' f v → D.rt v H') ∧
  (∀ x, r = .error x → ∀ cls d σ' H' io', PostX K mg ea io Fr s σ H s' σ' io' H' x cls d → Wx cls d σ' H')
end
theorem Pess.can {X : Cx} {ea : EA} {Wx : WX} {sts : List Stmt} {m : Mo Fl} (h : Pess X ea Wx sts m) : PSs X sts (tsOf X.K X.mg ea Wx m) := by
  obtain ⟨t, p, r⟩ := h.ex
  exact ⟨fun pins s σ H D I ⟨io, Fr, s1, r0, s', S0, e, h1, h2, h3, h4, h5⟩ => p.run pins s σ H D I (r σ H io Fr s1 S0 r0 s' e D h1 h2 h3 h4 h5)⟩
structure Hd where
  tbl : List (Str × Bool)
  slot : Option Nat
  suite : Mo Fl
section
variable {K : PySem.W.Frag} {mg : Str → Option Value} {ea ea' : EA} {io io' : List Addr} {Fr Fr' : Addr → Prop} {s s' s2 : S} {σ σ' : L2.St} {H H' : Hp} {w : W} {v : V} {c : Cell} {o : HO} {a p C : Addr} {ws : List W} {vs : List V} {M M' : Addr → Prop} {Wx : WX}
inductive HdsM (K : PySem.W.Frag) (mg : Str → Option Value) : List HdT → List Hd → Prop
  | nil : HdsM K mg [] []
  | cons {c : Value} {os : Option Nat} {tbl : List (Str × Bool)} {m : Mo Fl} {l : List HdT} {hs : List Hd} (ht : ∀ nm b, tbl.lookup nm = some b → ∀ C, mg nm = some (.ref C) → PySem.W.exmOne K (.ref C) c = some b) (r : HdsM K mg l hs) :
      HdsM K mg ((c, os, fun a cls d => tsOf K mg ⟨a, cls, d⟩ W0 m) :: l) (⟨tbl, os, m⟩ :: hs)
end
section
variable {X : Cx} {ea : EA} {Wx : WX} {body : List Stmt} {h₀ : ExceptHandler} {hds : List ExceptHandler} {pos : Pos} {mb : Mo Fl}
structure PHds (X : Cx) (hds : List ExceptHandler) (hs : List Hd) : Prop where
  ex : ∃ l, HdsN X hds l ∧ HdsM X.K X.mg l hs
variable {x n : Str} {c : Value} {i : Nat} {b₀ : Stmt} {suite : List Stmt} {np pos' : Pos} {hs : List Hd} {tbl : List (Str × Bool)} {m : Mo Fl}
end
end Z
set_option Elab.async false
set_option linter.all false
set_option maxRecDepth 100000
namespace Z
open PySem PySem.Spec PyProof.Rows L2
section
variable {K : PySem.W.Frag} {mg : Str → Option Value} {ea : EA} {io io' : List Addr} {Fr Fr' : Addr → Prop} {s s' s2 : S} {σ σ' : L2.St} {H H' : Hp} {w : W} {v : V} {c c' : Cell} {o o' : HO} {a p C : Addr} {ws : List W} {vs : List V} {M M' : Addr → Prop} {Wx : WX}
theorem fro_own {i : Nat} (e : s.r[i]? = some (.own c)) : ∀ b, FrO Fr (s.r.set i (.own c')) σ b ↔ FrO Fr s.r σ b := by
  have hi := get_lt e
  intro b
  constructor
  · rintro (z | ⟨j, d, h1, h2⟩)
    · exact .inl z
    · by_cases ij : i = j
      · subst ij; exact .inr ⟨i, c, e, h2⟩
      · rw [List.getElem?_set_ne ij] at h1; exact .inr ⟨j, d, h1, h2⟩
  · rintro (z | ⟨j, d, h1, h2⟩)
    · exact .inl z
    · by_cases ij : i = j
      · subst ij; exact .inr ⟨i, c', List.getElem?_set_self hi, h2⟩
      · exact .inr ⟨j, d, by rw [List.getElem?_set_ne ij]; exact h1, h2⟩
theorem ms_own {i : Nat} (e : s.r[i]? = some (.own c)) : ∀ b, Ms io Fr { s with r := s.r.set i (.own c') } σ b ↔ Ms io Fr s σ b := fun b => by
  constructor
  · exact fun z => z.imp id (fro_own e b).1
  · exact fun z => z.imp id (fro_own e b).2
theorem Sim.setOwnCell {i : Nat} (x : Sim K mg ea io Fr s σ H) (e : s.r[i]? = some (.own c)) (hs : σ[i]? = some (some (V.ref a))) (h : ∀ {H' : Hp}, Pers io (Ms io Fr s σ) H io (Ms io Fr s σ) H' → Rc K mg io (Ms io Fr s σ) H' c' o') :
    Sim K mg ea io Fr { s with r := s.r.set i (.own c') } σ (upd H a o') ∧ Stp io (Ms io Fr s σ) Fr H io (Ms io Fr { s with r := s.r.set i (.own c') } σ) (upd H a o') := by
  have hi := get_lt e
  obtain ⟨a0, o0, k1, k2, k3, k4⟩ := x.own i c e
  rw [hs] at k1; cases k1
  have aF : FrO Fr s.r σ a := .inr ⟨i, c, e, hs⟩
  have aM : Ms io Fr s σ a := .inr aF
  have nio : a ∉ io := fun z => x.g.dj a z aF
  have q : Pers io (Ms io Fr s σ) H io (Ms io Fr s σ) (upd H a o') := ⟨fun b u e hb => by rw [upd_ne (fun z => by subst z; exact hb aM)]; exact e, fun b z => .inl z, fun _ _ e => e⟩
  have le : ∀ b, Ms io Fr { s with r := s.r.set i (.own c') } σ b → Ms io Fr s σ b := fun b z => (ms_own e b).1 z
  have q' : Pers io (Ms io Fr s σ) H io (Ms io Fr { s with r := s.r.set i (.own c') } σ) (upd H a o') := ⟨q.keep, fun b z => .inl (le b z), q.ext⟩
  refine ⟨⟨by simpa using x.len, ⟨x.g.len, fun m b d h1 h2 => ?_, x.g.nd, fun b z => fun t => x.g.dj b z ((fro_own e b).1 t), fun b z => ?_⟩, fun j u t => ?_, fun j d t => ?_, fun j k d d' b t1 t2 t3 t4 => ?_, fun j y t => ?_⟩, q', fun b z => ?_, fun b u t => ?_⟩
  · obtain ⟨u, t, r⟩ := x.g.cell m b d h1 h2
    have nb : b ≠ a := fun z => by
      subst z
      exact nio (List.mem_of_getElem? h1)
    exact ⟨u, by rw [upd_ne nb]; exact t, r.pers q'⟩
  · by_cases ba : b = a
    · exact ⟨o', by rw [ba, upd_same], (h q).nt⟩
    · obtain ⟨u, t, n⟩ := x.g.fr b ((fro_own e b).1 z)
      exact ⟨u, by rw [upd_ne ba]; exact t, n⟩
  · by_cases ij : i = j
    · subst ij
      rw [show ({ s with r := s.r.set i (.own c') } : S).r = s.r.set i (.own c') from rfl, List.getElem?_set_self hi] at t
      cases t
    · rw [show ({ s with r := s.r.set i (.own c') } : S).r = s.r.set i (.own c') from rfl, List.getElem?_set_ne ij] at t
      obtain ⟨v, h1, h2⟩ := x.val j u t
      exact ⟨v, h1, h2.pers q'⟩
  · by_cases ij : i = j
    · subst ij
      rw [show ({ s with r := s.r.set i (.own c') } : S).r = s.r.set i (.own c') from rfl, List.getElem?_set_self hi] at t
      cases t
      exact ⟨a, o', hs, upd_same, (h q).pers (.less le), k4⟩
    · rw [show ({ s with r := s.r.set i (.own c') } : S).r = s.r.set i (.own c') from rfl, List.getElem?_set_ne ij] at t
      obtain ⟨b, u, h1, h2, h3, h4⟩ := x.own j d t
      have ba : b ≠ a := fun z => by
        subst z
        exact ij (x.dist i j c d b e t hs h1)
      exact ⟨b, u, h1, by rw [upd_ne ba]; exact h2, h3.pers q', h4⟩
  · have key : ∀ (j : Nat) (d : Cell), (s.r.set i (.own c'))[j]? = some (.own d) → ∃ d0, s.r[j]? = some (.own d0) := fun j d t => by
      by_cases ij : i = j
      · subst ij; exact ⟨c, e⟩
      · rw [List.getElem?_set_ne ij] at t; exact ⟨d, t⟩
    obtain ⟨d1, y1⟩ := key j d t1
    obtain ⟨d2, y2⟩ := key k d' t2
    exact x.dist j k d1 d2 b y1 y2 t3 t4
  · by_cases ij : i = j
    · subst ij
      rw [show ({ s with r := s.r.set i (.own c') } : S).r = s.r.set i (.own c') from rfl, List.getElem?_set_self hi] at t
      cases t
    · rw [show ({ s with r := s.r.set i (.own c') } : S).r = s.r.set i (.own c') from rfl, List.getElem?_set_ne ij] at t
      obtain ⟨h1, h2⟩ := x.exc j y t
      exact ⟨h1, h2.pers q'⟩
  · rw [upd_ne (fun t => by subst t; exact k4 z)]
  · by_cases ba : b = a
    · exact ⟨o', by rw [ba, upd_same]⟩
    · exact ⟨u, by rw [upd_ne ba]; exact t⟩
def cellAt (s : S) : RV → Option Cell
  | .hnd i => match s.r[i]? with
    | some (.own c) => some c
    | some (.val (.ref n)) => s.G[n]?
    | _ => none
  | .val (.ref n) => s.G[n]?
  | _ => none
def putAt (s : S) (c : Cell) : RV → S
  | .hnd i => match s.r[i]? with
    | some (.own _) => { s with r := s.r.set i (.own c) }
    | some (.val (.ref n)) => { s with G := s.G.set n c }
    | _ => s
  | .val (.ref n) => { s with G := s.G.set n c }
  | _ => s
theorem cell_ok (S0 : Sim K mg ea io Fr s σ H) {x : RV} (h : RvR K mg io (Ms io Fr s σ) σ H x v) (e : cellAt s x = some c) : ∃ a o, v = .ref a ∧ H a = some o ∧ Ms io Fr s σ a ∧ Rc K mg io (Ms io Fr s σ) H c o ∧
    ∀ c' o', (∀ {H' : Hp}, Pers io (Ms io Fr s σ) H io (Ms io Fr s σ) H' → Rc K mg io (Ms io Fr s σ) H' c' o') → Sim K mg ea io Fr (putAt s c' x) σ (upd H a o') ∧ Stp io (Ms io Fr s σ) Fr H io (Ms io Fr (putAt s c' x) σ) (upd H a o') ∧ (∀ b, Ms io Fr (putAt s c' x) σ b ↔ Ms io Fr s σ b) := by
  have viaRef : ∀ {n : Nat}, Rw K mg io (Ms io Fr s σ) H (.ref n) v → s.G[n]? = some c → ∃ a o, v = .ref a ∧ H a = some o ∧ Ms io Fr s σ a ∧ Rc K mg io (Ms io Fr s σ) H c o ∧
    ∀ c' o', (∀ {H' : Hp}, Pers io (Ms io Fr s σ) H io (Ms io Fr s σ) H' → Rc K mg io (Ms io Fr s σ) H' c' o') → Sim K mg ea io Fr { s with G := s.G.set n c' } σ (upd H a o') ∧ Stp io (Ms io Fr s σ) Fr H io (Ms io Fr { s with G := s.G.set n c' } σ) (upd H a o') ∧ (∀ b, Ms io Fr { s with G := s.G.set n c' } σ b ↔ Ms io Fr s σ b) := by
    intro n hr hg
    cases hr with
    | ref hn =>
      rename_i a
      obtain ⟨o, ho, hc⟩ := S0.g.cell n a c hn hg
      refine ⟨a, o, rfl, ho, .inl (List.mem_of_getElem? hn), hc, fun c' o' f => ?_⟩
      obtain ⟨S1, T1⟩ := S0.setCell hn f
      exact ⟨S1, T1, fun b => Iff.rfl⟩
  cases x with
  | own c => exact h.elim
  | val w =>
    cases w with
    | ref n => exact viaRef h e
    | _ => cases e
  | hnd i =>
    have h' : σ[i]? = some (some v) := h
    simp only [cellAt] at e
    split at e
    · rename_i c0 q
      cases e
      obtain ⟨a, o, h1, h2, h3, h4⟩ := S0.own i _ q
      rw [h'] at h1
      cases h1
      refine ⟨a, o, rfl, h2, .inr (.inr ⟨i, _, q, h'⟩), h3, fun c' o' f => ?_⟩
      obtain ⟨S1, T1⟩ := S0.setOwnCell q h' f
      have ep : putAt s c' (.hnd i) = { s with r := s.r.set i (.own c') } := by simp only [putAt, q]
      rw [ep]
      exact ⟨S1, T1, fun b => ms_own q b⟩
    · rename_i n q
      obtain ⟨u, h1, h2⟩ := S0.val i _ q
      rw [h'] at h1
      cases h1
      obtain ⟨a, o, k1, k2, k3, k4, k5⟩ := viaRef h2 e
      refine ⟨a, o, k1, k2, k3, k4, fun c' o' f => ?_⟩
      have ep : putAt s c' (.hnd i) = { s with G := s.G.set n c' } := by simp only [putAt, q]
      rw [ep]
      exact k5 c' o' f
    · cases e
def MutR (K : PySem.W.Frag) (mg : Str → Option Value) (r : V → List V → Hp → VK → Prop) (f : Cell → List W → Option (W × Cell)) : Prop :=
  ∀ io M H a o c ws vs w c' Q, H a = some o → Rc K mg io M H c o → Rws K mg io M H ws vs → f c ws = some (w, c') → M a →
    (∀ o' v, (∀ {H' : Hp}, Pers io M H io M H' → Rc K mg io M H' c' o') → Rw K mg io M H w v → Q v (upd H a o')) → r (.ref a) vs H Q
inductive CK where
  | lst
  | dict
def CK.ty : CK → String
  | .lst => "list"
  | .dict => "dict"
def CK.fits : CK → Cell → Bool
  | .lst, .lst _ => true
  | .dict, .dK _ => true
  | .dict, .dT _ => true
  | _, _ => false
theorem fits_ty {k : CK} (h : k.fits c = true) (ha : H a = some o) (r : Rc K mg io M H c o) : tyV K k.ty (.ref a) H := by
  cases k <;> cases c <;> simp [CK.fits] at h
  · obtain ⟨vs, rfl, _⟩ := r
    exact .inl ⟨rfl, vs, .inl (.inl ha)⟩
  · obtain ⟨vs, rfl, _⟩ := r
    exact .inr (.inr (.inl ⟨rfl, .inl ⟨vs, ha⟩⟩))
  · obtain ⟨vs, rfl, _⟩ := r
    exact .inr (.inr (.inl ⟨rfl, .inr ⟨vs, ha⟩⟩))
def mMut (k : CK) (f : Cell → List W → Option (W × Cell)) (mo : Mo RV) (ms : Mo (List RV)) : Mo RV := bnd mo fun x s => if ((cellAt s (settle x)).map k.fits) = some true then (bnd ms fun xs => bnd (freezeAll xs) fun ws s2 => match cellAt s2 (settle x) with
  | some c => (match f c ws with
    | some (w, c') => some (.ok (.val w), putAt s2 c' (settle x))
    | none => none)
  | none => none) s else none
theorem ref_mut {k : CK} {f : Cell → List W → Option (W × Cell)} {r : V → List V → Hp → VK → Prop} (hr : MutR K mg r f) {ta : TE} {t : TA} {mo : Mo RV} {ms : Mo (List RV)} (ho : RefE K mg ea Wx ta mo) (ha : RefA K mg ea Wx t ms) :
    RefE K mg ea Wx (tBM K k.ty r ta t) (mMut k f mo ms) := by
  intro σ H io Fr s S0 r0 s' e Q hok hex
  refine one2 ho S0 e hex fun x vx s1 H1 io1 e2 px => ?_
  obtain ⟨S1, T1, R1⟩ := px.settled
  split at e2
  · rename_i hc
    obtain ⟨c1, h1, h2⟩ := Option.map_eq_some_iff.mp hc
    obtain ⟨a, o, rfl, hH, hM, hR, _⟩ := cell_ok S1 R1 h1
    refine ⟨fits_ty h2 hH hR, ?_⟩
    refine arg2 ha S1 e2 (fun x q cls d H' io' p => hex x q cls d H' io' ⟨p.1, T1.trans p.2.1, p.2.2⟩) fun xs vs s4 H4 io4 e7 p4 R4 => ?_
    rcases bnd_some e7 with ⟨x, e8, rfl⟩ | ⟨ws, s5, e8, e9⟩
    · obtain ⟨_, _, _, _, q, _⟩ := freezeAll_ok p4.1 R4 e8
      cases q
    · obtain ⟨_, m5, S5, ws', q, r5⟩ := freezeAll_ok p4.1 R4 e8
      cases q
      have T5 := (T1.trans p4.2).less m5
      have R5 := RvR.pers ⟨fun _ _ h _ => h, fun a z => .inl (m5 a z), fun _ _ h => h⟩ (RvR.pers p4.2.p R1)
      split at e9
      · rename_i c5 hc5
        split at e9
        · rename_i w c' hf
          obtain ⟨a', o', h1, h2, h3, h4, h5⟩ := cell_ok S5 R5 hc5
          cases h1
          refine hr io4 _ H4 a o' c5 _ vs w c' Q h2 h4 r5 hf h3 fun o2 v f2 rw2 => ?_
          obtain ⟨S6, T6, m6⟩ := h5 c' o2 f2
          cases e9
          exact hok _ rfl v _ io4 ⟨S6, T5.trans T6, rw2.pers T6.p⟩
        · cases e9
      · cases e9
  · cases e2
theorem sz_le {n : Nat} (h : n ≤ sz) : n ≤ sizeLine := by rw [sizeLine_eq]; exact h
def fAppend : Cell → List W → Option (W × Cell)
  | .lst ws, [w] => if ws.length < sz then some (.non, .lst (ws ++ [w])) else none
  | _, _ => none
theorem mu_append : MutR K mg rAppend fAppend := by
  intro io M H a o c ws vs w c' Q ha hR hw e hM q
  unfold fAppend at e
  split at e
  · rename_i xs y
    split at e
    · rename_i hz
      cases e
      obtain ⟨us, rfl, r⟩ := hR
      obtain ⟨v, rest, rfl, h1, h2⟩ := hw.cons_inv
      have := h2.nil_inv
      subst this
      refine ⟨a, us, v, rfl, rfl, ha, ?_, q _ .non (fun {H'} p => ⟨_, rfl, (r.pers p).append (Rws.one (h1.pers p))⟩) .non⟩
      rw [← r.1, sizeLine_eq]; exact hz
    · cases e
  · cases e
end
abbrev FewArgs (X : Cx) (at_ : Pos) (args : List Expr) : Prop :=
  (((backTo at_ (starEach args X.env)).all fun x => !x.1) && ((backToKw at_ (keywordEach [] X.env)).all fun x => x.1.isSome) && decide (args.length + ([] : List Keyword).length + (if ([] : List Keyword).isEmpty then 0 else 1) < 30)) = true
section
variable {X : Cx} {ea : EA} {Wx : WX} {e o : Expr} {es : List Expr} {mo mv : Mo RV} {ms : Mo (List RV)} {p pos apos cpos tpos : Pos} {name : Str} {id : String} {r : V → List V → Hp → VK → Prop} {f : Cell → List W → Option (W × Cell)} {k : CK}
theorem pee_mut (pa : PlainAttrs k.ty) (slot : Slot k.ty name id) (hty : typeOf (.builtin id) = pure (.type "method_descriptor")) (hm : MtR X id r) (hf : MutR X.K X.mg r f) (ho : Pee X ea Wx o mo) (ha : Pea X ea Wx (e :: es) ms)
    (hbase : attributeBase o name X.env (eval o X.env) = eval o X.env := by rfl)
    (hfew : FewArgs X cpos (e :: es) := by rfl)
    (hs : starEach (e :: es) X.env = (false, eval e X.env) :: starEach es X.env := by rfl) (hline : (apos.endLine == cpos.line) = true := by rfl) (hplain : (backTo cpos (starEach es X.env)).any (·.1) = false := by rfl) :
    Pee X ea Wx (.Call (.Attribute o name apos) (e :: es) [] cpos) (mMut k f mo ms) := by
  obtain ⟨t, q, rr⟩ := ho.ex
  obtain ⟨t', q', rr'⟩ := ha.ex
  exact ⟨_, pe_bm pa slot hty hm q q' hbase hfew hline hs hplain, ref_mut hf rr rr'⟩
end
end Z
set_option Elab.async false
set_option linter.all false
set_option maxRecDepth 100000
namespace Z
open PySem PySem.Spec PyProof.Rows L2
section
variable {K : PySem.W.Frag} {mg : Str → Option Value} {ea : EA} {io io' : List Addr} {Fr Fr' : Addr → Prop} {s s' s2 : S} {σ σ' : L2.St} {H H' : Hp} {w : W} {v : V} {c c' : Cell} {o o' : HO} {a p C : Addr} {ws : List W} {vs : List V} {M M' : Addr → Prop} {Wx : WX}
def SetR (K : PySem.W.Frag) (mg : Str → Option Value) (r : TSet) (f : Cell → W → W → Option Cell) : Prop :=
  ∀ io M H a o c wi wv vi vv c' Q, H a = some o → Rc K mg io M H c o → Rw K mg io M H wi vi → Rw K mg io M H wv vv → f c wi wv = some c' →
    (∀ o', (∀ {H' : Hp}, Pers io M H io M H' → Rc K mg io M H' c' o') → Q (upd H a o')) → r (.ref a) vi vv H Q
def orf3 (f g : Cell → W → W → Option Cell) : Cell → W → W → Option Cell := fun c i w => match f c i w with
  | some z => some z
  | none => g c i w
theorem SetR.or {r r' : TSet} {f f' : Cell → W → W → Option Cell} (h : SetR K mg r f) (h' : SetR K mg r' f') : SetR K mg (fun o i v H Q => r o i v H Q ∨ r' o i v H Q) (orf3 f f') := by
  intro io M H a o c wi wv vi vv c' Q ha hr hi hv e q
  unfold orf3 at e
  cases k : f c wi wv with
  | some z =>
    rw [k] at e
    cases e
    exact .inl (h io M H a o c wi wv vi vv _ Q ha hr hi hv k q)
  | none =>
    rw [k] at e
    exact .inr (h' io M H a o c wi wv vi vv _ Q ha hr hi hv e q)
theorem PSet.or {X : Cx} {r r' : TSet} (h : PSet X r) (h' : PSet X r') : PSet X (fun o i v H Q => r o i v H Q ∨ r' o i v H Q) := by
  intro pins s σ H o i v ov iv u Q I ro ri rv q
  rcases q with q | q
  · exact h pins s σ H o i v ov iv u Q I ro ri rv q
  · exact h' pins s σ H o i v ov iv u Q I ro ri rv q
theorem Rkv.any {κ : Type} [DecidableEq κ] {k : κ} : ∀ {ws : List (κ × W)} {vs : List (κ × V)}, Rkv K mg io M H ws vs → (ws.any fun kv => decide (kv.1 = k)) = (vs.any fun kv => decide (kv.1 = k))
  | [], vs, h => by rw [h.nil_inv]; rfl
  | (k', w) :: ws, vs, h => by
    obtain ⟨v, r, rfl, h1, h2⟩ := h.cons_inv
    simp only [List.any_cons]
    rw [Rkv.any h2]
def RefO (K : PySem.W.Frag) (mg : Str → Option Value) (ea : EA) (Wx : WX) (t : TO) (m : Mo (Option Int)) : Prop := ∀ (σ : L2.St) (H : Hp) (io : List Addr) (Fr : Addr → Prop) (s : S), Sim K mg ea io Fr s σ H → ∀ r s', m s = some (r, s') → ∀ Q : Option Int → Hp → Prop,
  (∀ b, r = .ok b → ∀ H' io', PostS K mg ea io Fr s σ H s' σ io' H' → Q b H') → (∀ x, r = .error x → ∀ cls d H' io', PostX K mg ea io Fr s σ H s' σ io' H' x cls d → Wx cls d σ H') → t σ H Q
def mNoPart : Mo (Option Int) := ret none
def toI : RV → Mo (Option Int)
  | .val (.int i) => ret (some i)
  | _ => stk
def mPart (m : Mo RV) : Mo (Option Int) := bnd m toI
theorem ref_noPart : RefO K mg ea Wx tNoPart mNoPart := by
  intro σ H io Fr s S0 r s' e Q hok hex
  cases e
  exact hok _ rfl H io ⟨S0, .refl⟩
theorem ref_part {t : TE} {m : Mo RV} (h : RefE K mg ea Wx t m) : RefO K mg ea Wx (tPart t) (mPart m) := by
  intro σ H io Fr s S0 r s' e Q hok hex
  refine one2 h S0 e hex fun x v s1 H1 io1 e2 px => ?_
  unfold toI at e2
  split at e2
  · rename_i i
    cases e2
    obtain ⟨S1, T1, R1⟩ := px
    cases R1
    exact ⟨i, rfl, hok _ rfl H1 io1 ⟨S1, T1⟩⟩
  · cases e2
def cutW {α : Type} (xs : List α) (lo hi : Option Int) : List α := (xs.drop (HT.sIx xs.length 0 lo)).take (HT.sIx xs.length xs.length hi - HT.sIx xs.length 0 lo)
theorem Rws.cut (h : Rws K mg io M H ws vs) (lo hi : Option Int) : Rws K mg io M H (cutW ws lo hi) (cutV vs lo hi) := by
  unfold cutW cutV
  rw [h.1]
  exact (h.drop _).take _
def fSl : W → Option Int → Option Int → Option OR
  | .lst ws, lo, hi => some (.newl (cutW ws lo hi))
  | .frl ws, lo, hi => some (.newl (cutW ws lo hi))
  | .tup ws, lo, hi => if HT.sIx ws.length 0 lo = 0 ∧ HT.sIx ws.length ws.length hi = ws.length then some (.imm (.tup ws)) else some (.newt (cutW ws lo hi))
  | .str z, lo, hi => if z.length ≤ sz then some (.imm (.str (cutS z lo hi))) else none
  | .byt z, lo, hi => if z.size ≤ sz then some (.imm (.byt (PySem.W.KBy.picked z lo hi))) else none
  | _, _, _ => none
def rSlW (K : PySem.W.Frag) : V → Option Int → Option Int → Hp → VK → Prop := fun x lo hi H Q => rSlL K x lo hi H Q ∨ rSlA K x lo hi H Q ∨ rSlS x lo hi H Q ∨ rSlB x lo hi H Q
theorem sl_any {X : Cx} : SlR X (rSlW X.K) := sl_list.or (sl_tupA.or (sl_str.or sl_byt))
theorem sl_hr {x : W} {vx : V} {lo hi : Option Int} {z : OR} {Q : VK} (rx : Rn K mg io M H x vx) (e : fSl x lo hi = some z) (q : OQ K mg io M H z Q) : rSlW K vx lo hi H Q := by
  unfold fSl at e
  split at e
  · cases e
    obtain ⟨a, vs, rfl, h, r⟩ := rx.lst
    exact .inl ⟨a, vs, rfl, .inl (.inl h), fun p hp => q p _ hp (r.cut lo hi)⟩
  · cases e
    obtain ⟨a, vs, rfl, h, r⟩ := rx.frl
    exact .inl ⟨a, vs, rfl, h, fun p hp => q p _ hp (r.cut lo hi)⟩
  · rename_i ws
    have rt : ∃ a vs, vx = .ref a ∧ SqT K H a vs ∧ Rws K mg io M H ws vs ∧ Rw K mg io M H (.tup ws) vx := by
      rcases rx with h | ⟨c, o, a, e, rfl, ha, hc⟩
      · cases h with
        | tup h l q => exact ⟨_, _, rfl, h.elim (fun z => SqT.of z.1) fun z => .inr z.1, ⟨l, q⟩, .tup h l q⟩
      · cases c <;> cases e
    obtain ⟨a, vs, rfl, h, r, rr⟩ := rt
    refine .inr (.inl ⟨a, vs, rfl, h, fun g => ?_, fun g p hp => ?_⟩)
    · rw [← r.1] at g
      rw [if_pos g] at e
      cases e
      exact q _ rr
    · rw [← r.1] at g
      rw [if_neg g] at e
      cases e
      exact q p _ hp (r.cut lo hi)
  · split at e
    · rename_i hz
      cases e
      obtain rfl := rx.str
      exact .inr (.inr (.inl ⟨_, rfl, sz_le hz, q _ (.str _)⟩))
    · cases e
  · split at e
    · rename_i hz
      cases e
      obtain rfl := rx.byt
      exact .inr (.inr (.inr ⟨_, rfl, hz, q _ (.byt _)⟩))
    · cases e
  · cases e
def mSl (mo : Mo RV) (ml mh : Mo (Option Int)) : Mo RV := bnd mo fun x => bnd ml fun l => bnd mh fun h => bnd (look (settle x)) fun wx => liftO (fSl wx l h)
theorem ref_sl {to : TE} {tl th : TO} {mo : Mo RV} {ml mh : Mo (Option Int)} (ho : RefE K mg ea Wx to mo) (hl : RefO K mg ea Wx tl ml) (hh : RefO K mg ea Wx th mh) : RefE K mg ea Wx (tSl (rSlW K) to tl th) (mSl mo ml mh) := by
  intro σ H io Fr s S0 r0 s' e Q hok hex
  refine one2 ho S0 e hex fun x vx s1 H1 io1 e2 px => ?_
  obtain ⟨S1, T1, R1⟩ := px.settled
  rcases bnd_some e2 with ⟨z, e3, rfl⟩ | ⟨l, s2, e3, e4⟩
  · exact hl σ H1 io1 Fr s1 S1 _ _ e3 _ (fun _ q => by cases q) fun x' q cls d H' io' py => by
      cases q
      exact hex _ rfl cls d H' io' ⟨py.1, T1.trans py.2.1, py.2.2⟩
  · refine hl σ H1 io1 Fr s1 S1 _ _ e3 _ (fun l' q H2 io2 p2 => ?_) (fun _ q => by cases q)
    cases q
    have T2 := T1.trans p2.2
    rcases bnd_some e4 with ⟨z, e5, rfl⟩ | ⟨h, s3, e5, e6⟩
    · exact hh σ H2 io2 Fr s2 p2.1 _ _ e5 _ (fun _ q => by cases q) fun x' q cls d H' io' py => by
        cases q
        exact hex _ rfl cls d H' io' ⟨py.1, T2.trans py.2.1, py.2.2⟩
    · refine hh σ H2 io2 Fr s2 p2.1 _ _ e5 _ (fun h' q H3 io3 p3 => ?_) (fun _ q => by cases q)
      cases q
      have T3 := T2.trans p3.2
      have R3 := (R1.pers p2.2.p).pers p3.2.p
      rcases bnd_some e6 with ⟨z, e7, rfl⟩ | ⟨wx, s4, e7, e8⟩
      · obtain ⟨_, _, q, _⟩ := look_ok p3.1 R3 e7
        cases q
      · obtain ⟨rfl, wx', q, nx⟩ := look_ok p3.1 R3 e7
        cases q
        obtain ⟨rfl, u, hu, rfl⟩ := liftO_some e8
        exact sl_hr nx hu (OQ.post p3.1 T3 fun v H3 io3 px => hok _ rfl v H3 io3 px)
def mChain (f g : W → W → Option OR) (ma mb mc : Mo RV) : Mo RV := bnd ma fun x => bnd mb fun y => bnd (mB (opM f (settle x) (settle y))) fun k => if k = true then bnd mc fun z => opM g (settle y) (settle z) else ret (.val (.bl false))
theorem ref_chain {X : Cx} {r r' : R2} {f g : W → W → Option OR} (hr : ∀ io M H x y vx vy z Q, Rn K mg io M H x vx → Rn K mg io M H y vy → f x y = some z → OQ K mg io M H z Q → r vx vy H Q)
    (hr' : ∀ io M H x y vx vy z Q, Rn K mg io M H x vx → Rn K mg io M H y vy → g x y = some z → OQ K mg io M H z Q → r' vx vy H Q)
    {ta tb tc : TE} {ma mb mc : Mo RV} (ha : RefE K mg ea Wx ta ma) (hb : RefE K mg ea Wx tb mb) (hc : RefE K mg ea Wx tc mc) : RefE K mg ea Wx (tChain r r' ta tb tc) (mChain f g ma mb mc) := by
  intro σ H io Fr s S0 r0 s' e Q hok hex
  refine one2 ha S0 e hex fun x vx s1 H1 io1 e2 px => ?_
  obtain ⟨S1, T1, R1⟩ := px.settled
  refine one2 hb S1 e2 (fun x q cls d H' io' px => hex x q cls d H' io' ⟨px.1, T1.trans px.2.1, px.2.2⟩) fun y vy s2 H2 io2 e3 py => ?_
  obtain ⟨S2, T2', R2⟩ := py.settled
  have T2 := T1.trans T2'
  have R1' := R1.pers T2'.p
  rcases bnd_some e3 with ⟨z, e4, rfl⟩ | ⟨k, s3, e4, e5⟩
  · rcases bnd_some e4 with ⟨z', e6, _⟩ | ⟨q, s4, e6, e7⟩
    · unfold opM at e6
      rcases bnd_some e6 with ⟨z, e8, _⟩ | ⟨wx, s5, e8, e9⟩
      · obtain ⟨_, _, q, _⟩ := look_ok S2 R1' e8
        cases q
      · obtain ⟨rfl, wx', q, nx⟩ := look_ok S2 R1' e8
        cases q
        rcases bnd_some e9 with ⟨z, e10, _⟩ | ⟨wy, s6, e10, e11⟩
        · obtain ⟨_, _, q, _⟩ := look_ok S2 R2 e10
          cases q
        · obtain ⟨rfl, wy', q, ny⟩ := look_ok S2 R2 e10
          cases q
          obtain ⟨_, u, _, h⟩ := liftO_some e11
          cases h
    · obtain ⟨_, b, _, h⟩ := toB_some e7
      cases h
  · rcases bnd_some e4 with ⟨z', e6, h⟩ | ⟨q, s4, e6, e7⟩
    · cases h
    · obtain ⟨rfl, b, rfl, hb'⟩ := toB_some e7
      cases hb'
      unfold opM at e6
      rcases bnd_some e6 with ⟨z, e8, h⟩ | ⟨wx, s5, e8, e9⟩
      · cases h
      · obtain ⟨rfl, wx', q, nx⟩ := look_ok S2 R1' e8
        cases q
        rcases bnd_some e9 with ⟨z, e10, h⟩ | ⟨wy, s6, e10, e11⟩
        · cases h
        · obtain ⟨rfl, wy', q, ny⟩ := look_ok S2 R2 e10
          cases q
          obtain ⟨rfl, u, hu, h⟩ := liftO_some e11
          cases u with
          | imm w =>
            cases h
            refine hr _ _ _ _ _ _ _ _ _ nx ny hu fun v rv => ?_
            cases rv
            refine ⟨k, rfl, ?_⟩
            cases k with
            | false =>
              rw [if_neg (by simp)]
              cases e5
              exact hok _ rfl _ _ _ ⟨S2, T2, .bl _⟩
            | true =>
              rw [if_pos rfl]
              refine one2 hc S2 e5 (fun x q cls d H' io' px => hex x q cls d H' io' ⟨px.1, T2.trans px.2.1, px.2.2⟩) fun z vz s7 H7 io7 e12 pz => ?_
              obtain ⟨S7, T7', R7⟩ := pz.settled
              have T7 := T2.trans T7'
              have R2' := R2.pers T7'.p
              unfold opM at e12
              rcases bnd_some e12 with ⟨z, e13, rfl⟩ | ⟨wy2, s8, e13, e14⟩
              · obtain ⟨_, _, q, _⟩ := look_ok S7 R2' e13
                cases q
              · obtain ⟨rfl, wy', q, ny2⟩ := look_ok S7 R2' e13
                cases q
                rcases bnd_some e14 with ⟨z, e15, rfl⟩ | ⟨wz, s9, e15, e16⟩
                · obtain ⟨_, _, q, _⟩ := look_ok S7 R7 e15
                  cases q
                · obtain ⟨rfl, wz', q, nz⟩ := look_ok S7 R7 e15
                  cases q
                  obtain ⟨rfl, u2, hu2, rfl⟩ := liftO_some e16
                  exact hr' _ _ _ _ _ _ _ _ _ ny2 nz hu2 (OQ.post S7 T7 fun v H3 io3 px => hok _ rfl v H3 io3 px)
          | newl ws => cases h
          | newt ws => cases h
def IpM (X : Cx) (op : Operator) (f : W → W → Option OR) : Prop :=
  ∃ r : TIp, PIp X op r ∧ ∀ io M H x y vx vy z Q, Rn X.K X.mg io M H x vx → Rn X.K X.mg io M H y vy → f x y = some z → OQ X.K X.mg io M H z Q → r vx vy H Q
def mAug (i : Nat) (f : W → W → Option OR) (me : Mo RV) : Mo Fl := mAsg i (bnd (mName i) fun x => bnd me fun y => opM f x (settle y))
theorem ref_aug (X : Cx) {i : Nat} {f : W → W → Option OR} {te : TE} {me : Mo RV} {r : TIp} (hr : ∀ io M H x y vx vy z Q, Rn K mg io M H x vx → Rn K mg io M H y vy → f x y = some z → OQ K mg io M H z Q → r vx vy H Q) (he : RefE K mg ea Wx te me) :
    RefS K mg ea Wx (tAug i te r) (mAug i f me) := by
  have h1 : RefE K mg ea Wx (tOp r (tVar i) te) (bnd (mName i) fun x => bnd me fun y => opM f x (settle y)) := by
    have h := ref_op (X := X) (g := fun a _ => pure a) hr (ref_name (K := K) (mg := mg) (ea := ea) (Wx := Wx) i) he
    intro σ H io Fr s S0 r0 s' e
    refine h σ H io Fr s S0 r0 s' ?_
    rw [← e]
    unfold mBin bnd mName
    cases q : s.r[i]? with
    | none => rfl
    | some u => cases u <;> rfl
  exact ref_asg i h1
end
section
variable {X : Cx} {ea : EA} {Wx : WX} {e o i a b c : Expr} {mo mv mi ma mb mc : Mo RV} {pos p2 tpos : Pos} {r : TSet} {f g : W → W → Option OR}
structure Peo (X : Cx) (ea : EA) (Wx : WX) (e : Option Expr) (m : Mo (Option Int)) : Prop where
  ex : ∃ t, PO X e t ∧ RefO X.K X.mg ea Wx t m
theorem peo_none : Peo X ea Wx none mNoPart := ⟨_, po_none, ref_noPart⟩
theorem peo_some (h : Pee X ea Wx e mv) : Peo X ea Wx (some e) (mPart mv) := let ⟨_, q, r⟩ := h.ex; ⟨_, po_some q, ref_part r⟩
theorem pee_sl {lo hi : Option Expr} {ml mh : Mo (Option Int)} (ho : Pee X ea Wx o mo) (hl : Peo X ea Wx lo ml) (hh : Peo X ea Wx hi mh) : Pee X ea Wx (.Subscript o (.Slice lo hi none p2) pos) (mSl mo ml mh) := by
  obtain ⟨t, q, rr⟩ := ho.ex
  obtain ⟨t', q', rr'⟩ := hl.ex
  obtain ⟨t2, q2, rr2⟩ := hh.ex
  exact ⟨_, pe_slice sl_any q q' q2, ref_sl rr rr' rr2⟩
theorem pee_chain {op op' : CmpOp} (ho : OpM X (compareOp op) f) (ho' : OpM X (compareOp op') g) (ha : Pee X ea Wx a ma) (hb : Pee X ea Wx b mb) (hc : Pee X ea Wx c mc)
    (hm : lastMarks [op, op'] [b, c] = false := by with_unfolding_all rfl) : Pee X ea Wx (.Compare a [op, op'] [b, c] pos) (mChain f g ma mb mc) := by
  obtain ⟨r1, p1, w1⟩ := ho
  obtain ⟨r2, p2, w2⟩ := ho'
  obtain ⟨t, q, rr⟩ := ha.ex
  obtain ⟨t', q', rr'⟩ := hb.ex
  obtain ⟨t2, q2, rr2⟩ := hc.ex
  exact ⟨_, pe_chain p1 p2 q q' q2 hm, ref_chain (X := X) w1 w2 rr rr' rr2⟩
theorem pet_chain {op op' : CmpOp} (ho : OpM X (compareOp op) f) (ho' : OpM X (compareOp op') g) (ha : Pee X ea Wx a ma) (hb : Pee X ea Wx b mb) (hc : Pee X ea Wx c mc)
    (hm : lastMarks [op, op'] [b, c] = false := by with_unfolding_all rfl) : Pet X ea Wx (.Compare a [op, op'] [b, c] pos) (mB (mChain f g ma mb mc)) := by
  obtain ⟨r1, p1, w1⟩ := ho
  obtain ⟨r2, p2, w2⟩ := ho'
  obtain ⟨t, q, rr⟩ := ha.ex
  obtain ⟨t', q', rr'⟩ := hb.ex
  obtain ⟨t2, q2, rr2⟩ := hc.ex
  exact ⟨_, pt_chain p1 p2 q q' q2 hm, ref_test (ref_chain (X := X) w1 w2 rr rr' rr2)⟩
theorem pes_aug {op : Operator} (i : Nat) {x : Str} {pos' : Pos} (hN : X.N.Nodup) (ho : IpM X op f) (he : Pee X ea Wx e mv) (hi : X.N[i]? = some x := by rfl) (hx : Loc X.env.scope x := by first | exact Or.inl rfl | exact Or.inr rfl)
    (hf : X.fn x = true ∨ X.env.scope.names.lookup x = some .local := by first | exact .inl rfl | exact .inr rfl) : Pes X ea Wx (.AugAssign (.Name x pos') op e pos) (mAug i f mv) := by
  obtain ⟨r, p, w⟩ := ho
  obtain ⟨t, q, rr⟩ := he.ex
  exact ⟨_, ps_aug hN hi hx q p hf, ref_aug X w rr⟩
end
end Z
set_option Elab.async false
set_option linter.all false
set_option maxRecDepth 100000
namespace Z
open PySem PySem.Spec PyProof.Rows L2
inductive CT where
  | ty (n : String)
  | own (nm : Str)
deriving DecidableEq
def CT.Is (mg : Str → Option Value) : CT → Value → Prop
  | .ty n, v => v = .type n
  | .own nm, v => ∃ C, mg nm = some (.ref C) ∧ v = .ref C
def tyOfW : W → Option CT
  | .non => some (.ty "NoneType")
  | .bl _ => some (.ty "bool")
  | .int _ => some (.ty "int")
  | .str _ => some (.ty "str")
  | .byt _ => some (.ty "bytes")
  | .tup _ => some (.ty "tuple")
  | .lst _ => some (.ty "list")
  | .frl _ => some (.ty "list")
  | .dK _ => some (.ty "dict")
  | .dT _ => some (.ty "dict")
  | .dF _ => some (.ty "dict")
  | .obj nm _ => some (.own nm)
  | .slt _ _ => none
  | .ref _ => none
inductive TyY (K : PySem.W.Frag) (H : Hp) : V → Value → Prop where
  | base {x : V} {t : Value} (h : TyX K H x t) : TyY K H x t
  | fT {a : Addr} {o : Obj} {kvs : List (List Key × V)} (e : H a = some (.frz o (.dT kvs))) : TyY K H (.ref a) (.type "dict")
theorem kit_ofY {X : Cx} {pins : List (Addr × Obj)} {σ : L2.St} {H : Hp} {s : Shared} {x : V} {u t : Value} (I : Inv X pins σ H s) (rx : RelV x u) (ty : TyY X.K H x t) : ∃ P : Heap → Prop, PySem.W.KitX X.K u t P ∧ P s.heap ∧ u ≠ .builtin "__main__.__loader__#opaque" := by
  rcases ty with h | e
  · exact kit_of I rx h
  · rename_i a ob kvs
    cases rx
    obtain ⟨_, _, _, _, _, o, _, _, here, exact', _⟩ := (show ObjOk X.prog X.w H s.heap a (.frz ob (.dT kvs)) from I.hok a _ e)
    exact ⟨_, PySem.W.kitx_dict, ⟨o, here, exact'.1⟩, nofun⟩
def rIsY (K : PySem.W.Frag) (u : Value) : List V → Hp → VK → Prop := fun xs H Q => ∃ (x c : V) (t : Value) (b : Bool), xs = [x, c] ∧ ClsV c u ∧ TyY K H x t ∧ PySem.W.kitOne K t u = some b ∧ Q (.bl b) H
theorem call_isY {X : Cx} {u : Value} : CallR X (.builtin "isinstance") (rIsY X.K u) := by
  rintro pins s σ H _ _ Q I r ⟨x, c, t, b, rfl, k, ty, e, q⟩
  obtain ⟨v, k2, rfl, rv, rk⟩ := vals2 r
  cases k.eq rk
  exact let ⟨_, Z, p, no⟩ := kit_ofY I rv ty; PySem.W.kia_one Z I.kIn p e no fun tk => ⟨_, H, I.tok tk, show RelV (.bl b) _ from rfl, q⟩
section
variable {K : PySem.W.Frag} {mg : Str → Option Value} {ea : EA} {io io' : List Addr} {Fr Fr' : Addr → Prop} {s s' s2 : S} {σ σ' : L2.St} {H H' : Hp} {w : W} {v : V} {c c' : Cell} {o o' : HO} {a p C : Addr} {ws : List W} {vs : List V} {M M' : Addr → Prop} {Wx : WX}
theorem Rn.ty {ct : CT} (h : Rn K mg io M H w v) (e : tyOfW w = some ct) (hF : ∀ nm, ct = .own nm → ∃ C, mg nm = some (.ref C) ∧ C8.InsC K C) : ∃ t, ct.Is mg t ∧ TyY K H v t := by
  cases w with
  | non =>
    cases e
    rcases h with h | ⟨c, o, a, e, rfl, ha, hc⟩
    · cases h; exact ⟨_, rfl, .base (.base .non)⟩
    · cases c <;> cases e
  | bl b => cases e; obtain rfl := h.bl; exact ⟨_, rfl, .base (.base (.bl b))⟩
  | int b => cases e; obtain rfl := h.int; exact ⟨_, rfl, .base (.base (.int b))⟩
  | str b => cases e; obtain rfl := h.str; exact ⟨_, rfl, .base (.base (.str b))⟩
  | byt b => cases e; obtain rfl := h.byt; exact ⟨_, rfl, .base (.byt b)⟩
  | tup ws =>
    cases e
    rcases h with h | ⟨c, o, a, e, rfl, ha, hc⟩
    · cases h with
      | tup h l q =>
        rcases h with ⟨h, _⟩ | ⟨⟨o, its, n, k1, k2, _⟩, _⟩
        · exact ⟨_, rfl, .base (.base (.tup h))⟩
        · exact ⟨_, rfl, .base (.kTuple k1 k2)⟩
    · cases c <;> cases e
  | lst ws =>
    cases e
    obtain ⟨a, vs, rfl, h, r⟩ := h.lst
    exact ⟨_, rfl, .base (.base (.lst h))⟩
  | frl ws =>
    cases e
    rcases h with h | ⟨c, o, a, e, rfl, ha, hc⟩
    · cases h with
      | frl h l q =>
        rcases h with ⟨h, _⟩ | ⟨o, its, n, k1, k2, _⟩
        · rcases h with h | ⟨oo, h⟩
          · exact ⟨_, rfl, .base (.base (.lst h))⟩
          · exact ⟨_, rfl, .base (.base (.frz h))⟩
        · exact ⟨_, rfl, .base (.kList k1 k2)⟩
    · cases c <;> cases e
  | dK kvs =>
    cases e
    rcases h with h | ⟨c, o, a, e, rfl, ha, hc⟩
    · cases h with
      | dK h l q r =>
        rcases h with h | ⟨oo, h⟩
        · exact ⟨_, rfl, .base (.base (.dK h))⟩
        · exact ⟨_, rfl, .base (.fDict h)⟩
    · cases c <;> cases e
      obtain ⟨vs, rfl, _⟩ := hc
      exact ⟨_, rfl, .base (.base (.dK ha))⟩
  | dT kvs =>
    cases e
    rcases h with h | ⟨c, o, a, e, rfl, ha, hc⟩
    · cases h with
      | dT h l q r =>
        rcases h with h | ⟨oo, h⟩
        · exact ⟨_, rfl, .base (.base (.dT h))⟩
        · exact ⟨_, rfl, .fT h⟩
    · cases c <;> cases e
      obtain ⟨vs, rfl, _⟩ := hc
      exact ⟨_, rfl, .base (.base (.dT ha))⟩
  | dF kvs =>
    cases e
    rcases h with h | ⟨c, o, a, e, rfl, ha, hc⟩
    · cases h with
      | dF h l q r => exact ⟨_, rfl, .fT h⟩
    · cases c <;> cases e
  | obj nm fs =>
    cases e
    obtain ⟨C, hm, ic⟩ := hF nm rfl
    obtain ⟨a, C', dx, vs, rfl, hm', ha, r⟩ := h.obj
    rw [hm] at hm'
    cases hm'
    exact ⟨_, ⟨C, hm, rfl⟩, .base (.base (.ins ha ic.cl ic.ha ic.hn ic.htk ic.hm))⟩
  | slt nm ws => cases e
  | ref n => cases e
def tabAt {α : Type} : List (CT × α) → CT → Option α
  | [], _ => none
  | (c, b) :: r, d => if c = d then some b else tabAt r d
structure IsTab (K : PySem.W.Frag) (mg : Str → Option Value) (u : Value) (tab : List (CT × Bool)) : Prop where
  at' : ∀ c b, tabAt tab c = some b → (∀ t, c.Is mg t → PySem.W.kitOne K t u = some b) ∧ ∀ nm, c = .own nm → ∃ C, mg nm = some (.ref C) ∧ C8.InsC K C
theorem IsTab.nil {u : Value} : IsTab K mg u [] := ⟨fun c b h => by cases h⟩
theorem IsTab.ty {u : Value} {tab : List (CT × Bool)} {n : String} {b : Bool} (h : PySem.W.kitOne K (.type n) u = some b) (r : IsTab K mg u tab) : IsTab K mg u ((.ty n, b) :: tab) := ⟨fun c b' e => by
  unfold tabAt at e
  split at e
  · rename_i hc
    subst hc
    cases e
    exact ⟨fun t ht => by cases ht; exact h, fun nm q => by cases q⟩
  · exact r.at' c b' e⟩
theorem IsTab.own {u : Value} {tab : List (CT × Bool)} {nm : Str} {b : Bool} (hm : mg nm = some (.ref C)) (ic : C8.InsC K C) (h : PySem.W.kitOne K (.ref C) u = some b) (r : IsTab K mg u tab) : IsTab K mg u ((.own nm, b) :: tab) := ⟨fun c b' e => by
  unfold tabAt at e
  split at e
  · rename_i hc
    subst hc
    cases e
    exact ⟨fun t ht => by obtain ⟨D, h1, rfl⟩ := ht; rw [hm] at h1; cases h1; exact h, fun nm' q => by cases q; exact ⟨C, hm, ic⟩⟩
  · exact r.at' c b' e⟩
def mIs (tab : List (CT × Bool)) (m : Mo RV) : Mo RV := bnd m fun x => bnd (look (settle x)) fun w => liftO ((tyOfW w).bind fun c => (tabAt tab c).map fun b => .imm (.bl b))
theorem ref_is {u : Value} {cv : V} {tab : List (CT × Bool)} (T : IsTab K mg u tab) (hc : ClsV cv u) {t : TE} {m : Mo RV} (h : RefE K mg ea Wx t m) : RefE K mg ea Wx (fun σ H Q => (tCons t (tCons (tC cv) tNil)) σ H fun xs H1 => rIsY K u xs H1 Q) (mIs tab m) := by
  intro σ H io Fr s S0 r0 s' e Q hok hex
  refine one2 h S0 e hex fun x v s1 H1 io1 e2 px => ?_
  obtain ⟨S1, T1, R1⟩ := px.settled
  rcases bnd_some e2 with ⟨z, e5, rfl⟩ | ⟨wx, s3, e5, e6⟩
  · obtain ⟨_, _, q, _⟩ := look_ok S1 R1 e5
    cases q
  · obtain ⟨rfl, wx', q, nx⟩ := look_ok S1 R1 e5
    cases q
    obtain ⟨rfl, z, hu, rfl⟩ := liftO_some e6
    obtain ⟨ct, h1, h2⟩ := Option.bind_eq_some_iff.mp hu
    obtain ⟨b, h3, rfl⟩ := Option.map_eq_some_iff.mp h2
    obtain ⟨k1, k2⟩ := T.at' ct b h3
    obtain ⟨t, ht, ty⟩ := nx.ty h1 k2
    exact ⟨v, cv, t, b, rfl, hc, ty, k1 t ht, hok _ rfl _ _ _ ⟨S1, T1, .bl b⟩⟩
def XfN (K : PySem.W.Frag) (mg : Str → Option Value) (nms : List Str) (f : Str) : Prop := ∀ nm ∈ nms, ∃ C, mg nm = some (.ref C) ∧ XfC K C ∧ PySem.W.findIn K (.ref C) f = some none
theorem XfN.nil {f : Str} : XfN K mg [] f := fun nm h => by cases h
theorem XfN.cons {f nm : Str} {nms : List Str} (hm : mg nm = some (.ref C)) (h : XfC K C) (hn : PySem.W.findIn K (.ref C) f = some none) (r : XfN K mg nms f) : XfN K mg (nm :: nms) f := fun n hh => by
  rcases List.mem_cons.mp hh with rfl | q
  · exact ⟨C, hm, h, hn⟩
  · exact r n q
structure IsTabX (K : PySem.W.Frag) (mg : Str → Option Value) (u : Value) (tab : List (CT × Bool)) : Prop where
  at' : ∀ nm b, tabAt tab (.own nm) = some b → ∃ C, mg nm = some (.ref C) ∧ ExcC K C ∧ PySem.W.kitOne K (.ref C) u = some b
theorem IsTabX.nil {u : Value} : IsTabX K mg u [] := ⟨fun c b h => by cases h⟩
theorem IsTabX.own {u : Value} {tab : List (CT × Bool)} {nm : Str} {b : Bool} (hm : mg nm = some (.ref C)) (ic : ExcC K C) (h : PySem.W.kitOne K (.ref C) u = some b) (r : IsTabX K mg u tab) : IsTabX K mg u ((.own nm, b) :: tab) := ⟨fun c b' e => by
  unfold tabAt at e
  split at e
  · rename_i hc
    cases hc
    cases e
    exact ⟨C, hm, ic, h⟩
  · exact r.at' c b' e⟩
end
section
variable {X : Cx} {ea : EA} {Wx : WX} {e : Expr} {es : List Expr} {m : Mo RV} {u : Value} {cv : V} {tab : List (CT × Bool)} {p p2 pos : Pos} {cn : Str}
theorem pee_is (T : IsTab X.K X.mg u tab) (hc : ClsV cv u) (hn : ∀ p, PE X (.Name cn p) (tC cv)) (hm : X.mg "isinstance" = none) (he : Pee X ea Wx e m) (hg : Gl X "isinstance" := by rfl) (hv : bootBuiltins "isinstance" = some (.builtin "isinstance") := by decide +kernel)
    (hst : starEach [e, .Name cn p2] X.env = (false, eval e X.env) :: starEach [.Name cn p2] X.env := by rfl) (hpl : (backTo pos (starEach [.Name cn p2] X.env)).any (·.1) = false := by rfl)
    (hs2 : starEach [.Name cn p2] X.env = (false, eval (.Name cn p2) X.env) :: starEach [] X.env := by rfl) : Pee X ea Wx (.Call (.Name "isinstance" p) [e, .Name cn p2] [] pos) (mIs tab m) := by
  obtain ⟨t, q, r⟩ := he.ex
  exact ⟨_, pe_callB call_isY hg hm hv (pa_cons q (pa_cons (hn p2) pa_nil hs2) hst) (by decide) (by decide) hst hpl, ref_is T hc r⟩
end
end Z
set_option Elab.async false
set_option linter.all false
set_option maxRecDepth 100000
namespace Z
open PySem PySem.Spec PyProof.Rows L2
abbrev Entered (qual : Str) (scope : Scope) (f : Addr) (cd : Value) (ps : List Str) (us : List Value) (s s1 : Shared) : Prop :=
  let kinds := (envOfC qual scope s.heap.objs.size f cd).kindOf
  InCallC s s.heap.objs.size (bindL kinds (ps.zip us) fun _ => none) (cellsFrom (s.heap.objs.size + 1) scope.names []) (bindC kinds (ps.zip us) fun _ => none) s1
theorem inv_startW {CX : CXT} {P : Program} {w : World} {K : PySem.W.Frag} {mg : Str → Option Value} {base : Heap} {N ps : List Str} {qual : Str} {scope : Scope} {f : Addr} {cd : Value} {A : Around} {outer : List Env} {s s1 : Shared} {H : Hp} {E : XK} {us : List Value} {vs : List V}
    (S : FnScope N ps scope) (e0 : Env0 P w K mg base A outer s H) (hl : vs.length = ps.length) (r : Vals vs us)
    (x : Entered qual scope f cd ps us s s1) :
    Inv { cxOf CX P w K mg base N qual scope f cd A outer s H E with calm := false } [] (L2.start N vs) H s1 := by
  have quiet : Env0 P w K mg base { A with handled := none } outer s H := { e0 with frames := e0.frames }
  have I := inv_start (CX := CX) (E := E) S rfl quiet hl r x
  exact { I with ok := { I.ok with hd := (fun z => nomatch z), frames := Around.frames_deeper e0.frames } }
structure FnW (P : Program) (w : World) (K : PySem.W.Frag) (mg : Str → Option Value) (base : Heap) (k : Nat) (f : Addr) (fd : FuncData) (ps : List Str) (m : Fn) : Prop where
  run : ∀ (A : Around) (outer : List Env) (s : Shared) (H : Hp) (args : Args) (us : List Value) (vs : List V) (Q : VK) (E : XK), L2H.RoomH k A → Env0 P w K mg base A outer s H → BindsTo s fd args (ps.zip us) → Vals vs us → spM K mg ps.length m vs H Q E →
    codeAny (model P w) A (.call (.ref f) args) (CR (L2.CX P w) outer P w H s Q E) s
theorem FnW.toM {P : Program} {w : World} {K : PySem.W.Frag} {mg : Str → Option Value} {base : Heap} {k : Nat} {f : Addr} {fd : FuncData} {ps : List Str} {m : Fn} (F : FnW P w K mg base k f fd ps m) : FnM P w K mg base k f fd ps m :=
  ⟨⟨fun vs H Q E h => h.1, fun A outer s H args us vs Q E hr => F.run A outer s H args us vs Q E (L2H.roomH_of hr)⟩⟩
theorem par_lives {N ps : List Str} {sc : Scope} {n : Nat} (S : FnScope N ps sc) {us : List Value} : ∀ y ∈ ps.zip us, sc.names.lookup y.1 = some .local ∨ (sc.names.lookup y.1 = some .cell ∧ ((cellsFrom n sc.names []).lookup y.1).isSome = true) := by
  rintro y hy
  exact (S.par y.1 (List.of_mem_zip hy).1).imp id fun q => ⟨q, PySem.W.cellsFrom_some _ _ _ (.inl q)⟩
section
variable {K : PySem.W.Frag} {mg : Str → Option Value}
theorem spM_body {ps N : List Str} {n : Nat} {body : Mo Fl} {t : TS} {vs : List V} {H : Hp} {Q : VK} {E : XK} (hn : N.length = n) (hps : ps.length ≤ n) (rf : RefS K mg ea0 (fun cls d _ H => E cls d H) t body) (sp : spM K mg ps.length (fnM n body) vs H Q E) :
    t { nx := fun _ H' => Q .non H', rt := Q } (L2.start N vs) H := by
  obtain ⟨hl, io, Fr, G, ws, r0, G', g, R, e, hok, hex⟩ := sp
  obtain ⟨S0, mo⟩ := sim_start (ea := ea0) (s := ⟨[], G⟩) hn (by omega) g R
  unfold fnM at e
  have T0 : ∀ {M' : Addr → Prop} {io' : List Addr} {H' : Hp}, Stp io (Ms io Fr ⟨ws.map SV.val ++ List.replicate (n - ws.length) SV.non, G⟩ (L2.start N vs)) Fr H io' M' H' → Stp io (Mu io Fr) Fr H io' M' H' := fun T =>
    (Stp.refl.less fun b z => (mo b).1 z : Stp io (Mu io Fr) Fr H io (Ms io Fr ⟨ws.map SV.val ++ List.replicate (n - ws.length) SV.non, G⟩ (L2.start N vs)) H).trans T
  cases k : body ⟨ws.map SV.val ++ List.replicate (n - ws.length) SV.non, G⟩ with
  | none => rw [k] at e; cases e
  | some pr =>
    obtain ⟨rb, sb⟩ := pr
    rw [k] at e
    refine rf _ _ _ _ _ S0 _ _ k _ (fun q σ' H' io' px => ?_) (fun q σ' H' io' px => ?_) (fun q σ' H' io' px => ?_) (fun f q v H' io' px => ?_) fun xx q cls d σ' H' io' px => ?_
    · subst q
      cases e
      exact hok _ rfl _ _ _ ⟨px.1.g.less (s := sb) fun b z => .inl z, (T0 px.2).less fun b z => z.imp id .inl, .non⟩
    · subst q; cases e
    · subst q; cases e
    · subst q
      cases e
      cases f with
      | val w => exact hok _ rfl v H' io' ⟨px.1, T0 px.2.1, px.2.2⟩
      | own c =>
        obtain ⟨a, o, h1, h2, h3, h4, h5, h6⟩ := px
        exact hok _ rfl v H' io' ⟨a, o, h1, h2, h3, h4, T0 h5, h6⟩
    · subst q
      cases e
      obtain ⟨x1, x2, C, x3, x4, x5⟩ := px
      have le : ∀ b, Mu io' Fr b → Ms io' Fr sb σ' b := fun b z => z.imp id .inl
      refine hex _ rfl cls d H' io' ⟨x1.g.less (s := sb) fun b z => .inl z, (T0 x2).less le, C, x3, x4, x5.imp id ?_⟩
      rintro ⟨dd, us, y1, y2, y3, y4⟩
      exact ⟨dd, us, y1, y2, fun z => y3 (le _ z), y4.pers (.less le)⟩
def gives : Flow → Value
  | .ret u => u
  | _ => .none
theorem body_end {X : Cx} {s' : Shared} {Q : VK} {fl : Flow} (hf : X.fs = frs X.outer) (hx : X.ex = []) (h : SP X [] { nx := fun _ H' => Q .non H', rt := Q } fl s') : CE X.outer X.prog X.w X.H_0 X.s_0 Q (gives fl) s' := by
  have un : ∀ {σ : L2.St} {H' : Hp}, Inv X [] σ H' s' → Un (frs X.outer) [] X.H_0 H' X.s_0.heap s'.heap := fun J => by
    rw [← hf, ← hx]
    exact J.base
  cases fl with
  | next => exact let ⟨_, H', J, q⟩ := h; ⟨.non, H', J.os, J.bare, un J, J.hok, rfl, q⟩
  | ret u => exact let ⟨v, _, H', J, rv, q⟩ := h; ⟨v, H', J.os, J.bare, un J, J.hok, rv, q⟩
  | brk => exact let ⟨_, _, _, q⟩ := h; False.elim q
  | cont => exact let ⟨_, _, _, q⟩ := h; False.elim q
theorem defW {P : Program} {w : World} {base : Heap} {x qual : Str} {st : Stmt} {f : Addr} {fd : FuncData} {N ps : List Str} {k n : Nat} {body : Mo Fl} (F : Fun K x qual st f fd) (S : FnScope N ps (defScope st)) (hn : N.length = n)
    (hb : ∀ (cdv : Value) (A : Around) (outer : List Env) (s : Shared) (H : Hp) (E : XK), L2H.RoomH k (A.deeper (envOfC qual (defScope st) s.heap.objs.size f cdv)) →
      Pess { cxOf (L2.CX P w) P w K mg base N qual (defScope st) f cdv A outer s H E with calm := false } ea0 (fun cls d _ H => E cls d H) (defBody st) body) : FnW P w K mg base (k + 1) f fd ps (fnM n body) := by
  constructor
  intro A outer s H args us vs Q E room e0 bt rv sp
  obtain ⟨_, _, _, _, _, _, cdv, _, _, rfl, lk, hcd⟩ := F.ex
  have born : ∀ b o, base.get? b = some o → s.heap.get? b = some o := fun b o e => (e0.bs b o e).1
  have kin := e0.mod.kin.keeps born
  refine codeAny_call_function room.depth (kin _ _ lk) rfl S.co S.gen rfl (PySem.W.codeRec_of kin hcd) (bt _ _ _ _ (wpAny_newFunctionEnv_cells S.kind (par_lives S) ?_))
  rintro _ rfl s1 x
  obtain ⟨t, p, rf⟩ := (hb cdv A outer s H E (room.deeper _)).ex
  have few : ps.length ≤ n := by rw [← hn, ← S.pre]; exact List.length_take_le' _ _
  refine ⟨(e0.mod.nolimit.keeps born).keeps x.toInCall.keep, codeAny_func (wpAny_mono (p.run [] s1 _ H _ (inv_startW S e0 sp.1 rv x) (spM_body hn few rf sp)) (fun fl s' h => ?_) fun _ _ h => h)⟩
  have out := body_end rfl rfl h
  cases fl <;> exact out
end
section
variable {X : Cx} {ea : EA} {Wx : WX} {e : Expr} {es : List Expr} {ms : Mo (List RV)} {m : Fn} {k : Nat} {f : Addr} {fd : FuncData} {ps : List Str} {x : Str} {p pos pos' p2 : Pos}
theorem call_at {CX : CXT} {A1 : Around} {pins : List (Addr × Obj)} {σ : L2.St} {H : Hp} {s : Shared} {Q : VK} {us : List Value} {E : XK} {Ex : Value → Shared → Prop} (I : Inv X pins σ H s) (h : codeAny (model X.prog X.w) A1 (.call (.ref f) ⟨us, []⟩) (CR CX X.stack X.prog X.w H s Q E) s)
    (ex : ∀ e s', CX X.stack H s E e s' → Ex e s') : wpAny (model X.prog X.w) A1 (call (.ref f) us) (EP X pins σ Q) Ex s := by
  refine wpAny_call (codeAny_mono h ?_)
  rintro (er | (_ | _ | _ | u)) s' q
  · exact ex er s' q
  all_goals first | exact q.elim | exact I.after q
theorem binds0 {pins : List (Addr × Obj)} {σ : L2.St} {H : Hp} {s : Shared} {us : List Value} {n : Nat} (hb : Binds X.K fd ps []) (I : Inv X pins σ H s) (hl : us.length = ps.length) : BindsTo s fd ⟨us, []⟩ (ps.zip us) := by
  simpa using hb s us I.kIn (by simpa using hl)
def quiet (m : Mo RV) : Mo RV := fun s => match m s with
  | some (.ok x, s') => some (.ok x, s')
  | _ => none
theorem pes_raiseT {C : Addr} {t : Str} {j : Nat} {bmB : List Value} {B newId initId : String} (hC : X.mg x = some (.ref C)) (F : ExcBaseFacts B newId initId bmB) (q : PySem.W.excIn X.K C bmB newId = true) (kC : PySem.W.keepIn X.K (.ref C) = true) (r : Raises X (.ref C)) (tk : Takes X Wx) (hc : X.calm = true := by rfl) (hg : Gl X x := by rfl)
    (hdb : (x == ("__debug__" : Str)) = false := by decide) : Pes X ea Wx (.Raise (some (.Call (.Name x p) [.Constant (.str t) j p2] [] pos)) none pos') (mRaise0 x) :=
  ⟨_, ps_raise hc tk (pmk_own F q hC kC r hg hdb), ref_raise0 hC⟩
end
end Z
set_option Elab.async false
set_option linter.all false
set_option maxRecDepth 100000
namespace Z
open PySem PySem.Spec PyProof.Rows L2
section
variable {K : PySem.W.Frag} {mg : Str → Option Value} {ea : EA} {io io' : List Addr} {Fr Fr' : Addr → Prop} {s s' s2 : S} {σ σ' : L2.St} {H H' : Hp} {w : W} {v : V} {c c' : Cell} {o o' : HO} {a p C : Addr} {ws : List W} {vs : List V} {M M' : Addr → Prop} {Wx : WX}
def chk1 (nm : Str) : List W → Mo Unit
  | x :: _ => fun s => match derefW s x with
    | some (.obj nm' _) => if nm' = nm then some (.ok (), s) else none
    | _ => none
  | _ => stk
noncomputable def toLen : RV → Mo RV
  | .val (.int n) => if Lk n then ret (.val (.int n)) else stk
  | _ => stk
noncomputable def mLenO (nm : Str) (m : Fn) (ms : Mo (List RV)) : Mo RV := bnd ms fun xs => bnd (freezeAll xs) fun ws => if ws.length = 1 then bnd (chk1 nm ws) fun _ => bnd (callG m ws) toLen else stk
theorem chk1_ok (S0 : Sim K mg ea io Fr s σ H) {nm : Str} (hC : mg nm = some (.ref C)) (R : Rws K mg io (Ms io Fr s σ) H ws vs) {r : Except Ex Unit} (e : chk1 nm ws s = some (r, s')) : s' = s ∧ r = .ok () ∧ ∃ a dx fs rest, vs = .ref a :: rest ∧ H a = some (.ins C dx fs) := by
  unfold chk1 at e
  split at e
  · rename_i x rest
    split at e
    · rename_i nm' fs hd
      split at e
      · rename_i hc
        subst hc
        cases e
        obtain ⟨v, r', rfl, h1, h2⟩ := R.cons_inv
        obtain ⟨a, C', dx, us, rfl, hm, hH, rk⟩ := (deref_ok S0 h1 hd).obj
        rw [hC] at hm
        cases hm
        exact ⟨rfl, rfl, a, dx, us, r', rfl, hH⟩
      · cases e
    · cases e
  · cases e
structure NfTab (K : PySem.W.Frag) (mg : Str → Option Value) (C : Addr) (tys : List CT) : Prop where
  at' : ∀ ct ∈ tys, (∀ t, ct.Is mg t → PySem.W.notFirst K C t = true) ∧ ∀ nm, ct = .own nm → ∃ C, mg nm = some (.ref C) ∧ C8.InsC K C
theorem NfTab.nil : NfTab K mg C [] := ⟨fun ct h => by cases h⟩
theorem NfTab.ty {tys : List CT} {n : String} (h : PySem.W.notFirst K C (.type n) = true) (r : NfTab K mg C tys) : NfTab K mg C (.ty n :: tys) := ⟨fun ct hh => by
  rcases List.mem_cons.mp hh with rfl | q
  · exact ⟨fun t ht => by cases ht; exact h, fun nm q => by cases q⟩
  · exact r.at' ct q⟩
theorem NfTab.own {tys : List CT} {nm : Str} {D : Addr} (hm : mg nm = some (.ref D)) (ic : C8.InsC K D) (h : PySem.W.notFirst K C (.ref D) = true) (r : NfTab K mg C tys) : NfTab K mg C (.own nm :: tys) := ⟨fun ct hh => by
  rcases List.mem_cons.mp hh with rfl | q
  · exact ⟨fun t ht => by obtain ⟨E, h1, rfl⟩ := ht; rw [hm] at h1; cases h1; exact h, fun nm' q => by cases q; exact ⟨D, hm, ic⟩⟩
  · exact r.at' ct q⟩
end
section
variable {X : Cx} {ea : EA} {Wx : WX} {m : Fn} {k n : Nat} {f C : Addr} {fd : FuncData} {ps : List Str} {nm : Str} {A1 : Around}
theorem Sub.env0 {pins : List (Addr × Obj)} {σ : L2.St} {H : Hp} {s : Shared} (sb : Sub X k A1) (I : Inv X pins σ H s) : Env0 X.prog X.w X.K X.mg X.base A1 X.stack s H :=
  { I.env0 with frames := sb.fr.trans I.env0.frames }
theorem inst_of {pins : List (Addr × Obj)} {σ : L2.St} {H : Hp} {s : Shared} {a dx : Addr} {fs : List (Str × V)} (I : Inv X pins σ H s) (h : H a = some (.ins C dx fs)) : ∃ o d, PySem.W.InstAt s.heap a o C d :=
  let ⟨_, J, _⟩ := ins_get I.hok h; let ⟨d, J, _⟩ := J.look; ⟨_, d, J⟩
theorem run_fnSub {pins : List (Addr × Obj)} {σ : L2.St} {H : Hp} {s : Shared} {Q : VK} {us : List Value} {vs : List V} (sb : Sub X k A1) (F : FnM X.prog X.w X.K X.mg X.base k f fd ps m) (hb : Binds X.K fd ps []) (tk : Takes X Wx)
    (I : Inv X pins σ H s) (r : Vals vs us) (h : spM X.K X.mg ps.length m vs H Q (WE Wx σ)) : wpAny (model X.prog X.w) A1 (call (.ref f) us) (EP X pins σ Q) X.xe s :=
  call_at I (F.ok.run A1 X.stack s H ⟨us, []⟩ us vs Q (WE Wx σ) sb.room (Sub.env0 sb I) (binds0 (n := 0) hb I (r.length.symm.trans h.1)) r h) fun e s' q => passAt tk σ pins H s e s' I q
variable {tys : List CT}
theorem spM_then {K : PySem.W.Frag} {mg : Str → Option Value} {io : List Addr} {Fr : Addr → Prop} {s s' : S} {σ : L2.St} {H : Hp} {ws : List W} {vs : List V} {g : RV → Mo RV} (S0 : Sim K mg ea io Fr s σ H) (R : Rws K mg io (Ms io Fr s σ) H ws vs) (hn : vs.length = n) {r : Except Ex RV} (e : bnd (callG m ws) g s = some (r, s')) {Q : VK}
    (hok : ∀ x s1, g x s1 = some (r, s') → ∀ v H' io', PostE K mg ea io Fr s σ H s1 io' H' x v → Q v H') (hex : ∀ x, r = .error x → ∀ cls d H' io', PostX K mg ea io Fr s σ H s' σ io' H' x cls d → Wx cls d σ H') : spM K mg n m vs H Q (WE Wx σ) := by
  rcases bnd_some e with ⟨x, e1, rfl⟩ | ⟨x, s1, e1, e2⟩
  · exact spM_use S0 R hn e1 (fun _ q => by cases q) fun x' q cls d H' io' p => by
      cases q
      exact hex _ rfl cls d H' io' p
  · exact spM_use S0 R hn e1 (fun x' q v H' io' p => by cases q; exact hok _ _ e2 v H' io' p) (fun _ q => by cases q)
end
section
variable {X : Cx} {ea : EA} {Wx : WX} {m : Fn} {k n : Nat} {f C : Addr} {fd : FuncData} {ps : List Str} {nm : Str} {a b e : Expr} {ma mb : Mo RV} {ms : Mo (List RV)} {pos p : Pos} {g : RV → RV → Mo RV}
theorem pee_lenO (hC : X.mg nm = some (.ref C)) (F : FnM X.prog X.w X.K X.mg X.base k f fd ps m) (hp : ps.length = 1) (hr : Room (k + 1) X.A) (hb : Binds X.K fd ps []) (tk : Takes X Wx)
    (hs : PySem.W.findIn X.K (.ref C) "__len__" = some (some (.ref f))) (hf : PySem.W.isFn X.K (.ref f) = true) (hm : X.mg "len" = none) (ha : Pea X ea Wx [e] ms) (hg : Gl X "len" := by rfl) (hv : bootBuiltins "len" = some (.builtin "len") := by decide +kernel)
    (he : starEach [e] X.env = (false, eval e X.env) :: starEach [] X.env := by rfl) (hpl : (backTo pos (starEach [] X.env)).any (·.1) = false := by rfl) : Pee X ea Wx (.Call (.Name "len" p) [e] [] pos) (mLenO nm m ms) := by
  obtain ⟨t, q1, r1⟩ := ha.ex
  refine ⟨fun σ H Q => t σ H fun vs H1 => ∃ a dx fs, vs = [.ref a] ∧ H1 a = some (.ins C dx fs) ∧ spM X.K X.mg ps.length m vs H1 (fun v H' => ∃ i, v = .int i ∧ 0 ≤ i ∧ i < 2 ^ 63 ∧ Q (.int i) H') (WE Wx σ), ⟨fun pins s σ H Q I h => ?_⟩, ?_⟩
  · refine wpAny_Call_Name_kw (ld_blt I hg hm hv ?_ (by decide) (by decide))
    refine PyProof.Rows.callWith_builtin1 (thn (q1.run pos pins s σ H _ I h) fun us s1 ⟨vs, H1, I1, rv, q⟩ => ?_) he hpl
    obtain ⟨a, dx, fs, rfl, ha, q⟩ := q
    obtain rfl := Vals.ref1 rv
    obtain ⟨mA, J, _⟩ := ins_get I1.hok ha
    obtain ⟨od, J, _⟩ := J.look
    obtain ⟨m0, hF⟩ := I1.fr
    refine PySem.W.len_K hF I1.ok.mod.kin J hs hf (wpAny_mono (run_fnSub (Sub.in1 ⟨hr, rfl⟩) F hb tk I1 rv q) (fun v s' hh => ?_) fun _ _ x => x)
    obtain ⟨z, H', I', rz, i, rfl, h0, h1, qq⟩ := hh
    obtain ⟨t, rfl⟩ := rz
    exact ⟨⟨h0, h1⟩, .int i, H', I'.tok _, ⟨_, rfl⟩, qq⟩
  · intro σ H io Fr s S0 r0 s' e Q hok hex
    refine arg2 r1 S0 e hex fun xs vs s1 H1 io1 e2 px R1 => ?_
    rcases bnd_some e2 with ⟨x, e3, rfl⟩ | ⟨ws, s2, e3, e4⟩
    · obtain ⟨_, _, _, _, q, _⟩ := freezeAll_ok px.1 R1 e3
      cases q
    · obtain ⟨_, m2, S2, ws', q, r2⟩ := freezeAll_ok px.1 R1 e3
      cases q
      have T2 := px.2.less m2
      split at e4
      case isFalse => cases e4
      rename_i h1l
      rcases bnd_some e4 with ⟨z, e5, _⟩ | ⟨_, s3, e5, e6⟩
      · obtain ⟨_, q, _⟩ := chk1_ok S2 hC r2 e5
        cases q
      · obtain ⟨rfl, _, a, dx, fs, rest, hv, hH⟩ := chk1_ok S2 hC r2 e5
        subst hv
        have hr0 : rest = [] := by
          have := r2.1
          rw [h1l] at this
          simp at this
          exact this
        subst hr0
        refine ⟨a, dx, fs, rfl, hH, spM_then (n := ps.length) S2 r2 (by simp [hp]) e6 (fun z s1 e7 v H' io' px => ?_) fun x q cls d H' io' p => hex x q cls d H' io' ⟨p.1, T2.trans p.2.1, p.2.2⟩⟩
        unfold toLen at e7
        split at e7
        · rename_i i
          split at e7
          · rename_i hi
            cases e7
            obtain ⟨S7, T7, R7⟩ := px
            cases R7
            exact ⟨i, rfl, hi.1, hi.2, hok _ rfl _ _ _ ⟨S7, T2.trans T7, .int _⟩⟩
          · cases e7
        · cases e7
end
end Z
set_option linter.all false
set_option Elab.async false
set_option maxRecDepth 100000
set_option maxHeartbeats 1000000
namespace Z
open PySem PySem.Spec PyProof.Rows L2
structure Src where
  src : Addr
  len : Nat
  st : Addr → Nat → Heap → Prop
  fin : Addr → Option HO
  yl : Nat → V → Hp → Prop
  ok : Hp → Prop
def Src.at (S : Src) (it : Addr) (i : Nat) : HO := .ext (S.st it i)
def put (H : Hp) (a : Addr) (x : Option HO) : Hp := fun b => if b = a then x else H b
theorem put_ne {H : Hp} {a b : Addr} {x : Option HO} (h : b ≠ a) : put H a x b = H b := if_neg h
structure Steps (X : Cx) (A : Around) (it : Addr) (S : Src) : Prop where
  ty : ∀ {pins : List (Addr × Obj)} {σ : L2.St} {H : Hp} {s : Shared}, Inv X pins σ H s → H it = some (S.at it 0) → ∃ T i, s.TypeIs (.ref it) T ∧ Slot T "__next__" i
  more : ∀ {pins : List (Addr × Obj)} {σ : L2.St} {H : Hp} {s : Shared} {i : Nat} {Q : Option Value → Shared → Prop} {E : Value → Shared → Prop}, Inv X pins σ H s → H it = some (S.at it i) → S.ok H → i < S.len →
    (∀ v u s', S.yl i v H → RelV v u → Inv X pins σ (upd H it (S.at it (i + 1))) s' → Q (some u) s') → wpAny (model X.prog X.w) A (pyNext (.ref it)) Q E s
  last : ∀ {pins : List (Addr × Obj)} {σ : L2.St} {H : Hp} {s : Shared} {Q : Option Value → Shared → Prop} {E : Value → Shared → Prop}, Inv X pins σ H s → H it = some (S.at it S.len) → S.ok H →
    (∀ s', Inv X pins σ (put H it (S.fin it)) s' → Q none s') → wpAny (model X.prog X.w) A (pyNext (.ref it)) Q E s
def Src.all (S : Src) (ys : List V) (H : Hp) : Prop := ∀ j v, ys[j]? = some v → S.yl j v H
structure Mild (S : Src) : Prop where
  ok : ∀ {H H' : Hp}, S.ok H → H' S.src = H S.src → S.ok H'
  yl : ∀ {H H' : Hp} {i : Nat} {v : V}, S.yl i v H → (∀ b xs, H b = some (.tup xs) → H' b = some (.tup xs)) → S.yl i v H'
def srcL (K : PySem.W.Frag) (l : Addr) (zs : List V) : Src where
  src := l
  len := zs.length
  st := fun it i h => h.get? it = some (GNX.itObj l i)
  fin := fun it => some (ItE it zs.length)
  yl := fun i v _ => zs[i]? = some v
  ok := fun H => SqL K H l zs
section
variable {X : Cx} {pins : List (Addr × Obj)} {σ : L2.St} {H : Hp} {s : Shared} {it l q : Addr} {zs : List V} {A A1 : Around} {E : Value → Shared → Prop}
theorem stepsL (hh : A.handled = none) : Steps X A it (srcL X.K l zs) where
  ty := fun I e => ⟨"list_iterator", _, ⟨_, itO_get I e, rfl⟩, slot_listiter_next⟩
  more := by
    intro pins σ H s i Q E I e sq lt k
    obtain ⟨its, rv, pl, _⟩ := I.list (show SqL X.K H l zs from sq)
    obtain ⟨u, hu, ru⟩ := rv.get (List.getElem?_eq_getElem lt)
    have at_ := itO_get I e
    have typ : s.heap.IsListIter it l i := ⟨_, at_, rfl, rfl⟩
    unfold pyNext
    apply wpAny_bind (wpAny_attempt _)
    apply wpAny_callSpecial?_slot (name := Str.ofString "__next__") typ.typeIs slot_listiter_next
    apply wpAny_call_entry slot_listiter_next typ.typeIs entry_listiter_next _ (args_listiter_next _)
    apply wpAny_mono (GNX.next_item (Q := fun u s' => RelV zs[i] u ∧ Inv X pins σ (upd H it (ItO l it (i + 1))) s') at_ pl.isList (by simpa using hu) _) _ fun _ _ z => z
    · exact fun _ e2 sb => ⟨ru, I.write (t' := s.toks) (by rw [e]; exact True.intro) (.inl rfl) (fun b _ nb z => (sb.2 b nb).trans z) ⟨_, e2⟩ (itO_ok e2)⟩
    · rintro _ s2 ⟨u2, rfl, k1, k2⟩
      exact ⟨u2, rfl, wpAny_pure (k _ _ _ (List.getElem?_eq_getElem lt) k1 k2)⟩
  last := by
    intro pins σ H s Q E I e sq k
    obtain ⟨its, rv, pl, _⟩ := I.list (show SqL X.K H l zs from sq)
    have at_ := itO_get I e
    have typ : s.heap.IsListIter it l zs.length := ⟨_, at_, rfl, rfl⟩
    unfold pyNext
    apply wpAny_bind (wpAny_attempt _)
    apply wpAny_callSpecial?_slot (name := Str.ofString "__next__") typ.typeIs slot_listiter_next
    apply wpAny_call_entry slot_listiter_next typ.typeIs entry_listiter_next _ (args_listiter_next _)
    apply wpAny_mono (GNX.next_end (A := A) (Q := fun _ _ => False) hh at_ pl.isList (by rw [List.getElem?_toArray]; exact rv.none_of (List.getElem?_eq_none (Nat.le_refl _))) _) _ fun _ _ z => z
    · rintro h1 h2 x vs e1 sb keep _ hx _
      refine wpAny_bind (wpAny_isInstance (T := "StopIteration") (b := true) (by exact ⟨_, hx, rfl⟩) isSubtype_stop ?_)
      have J : Inv X pins σ (put H it ((srcL X.K l zs).fin it)) { s with heap := h1 } := I.write (e := it) (t' := s.toks) (by rw [e]; exact True.intro) (.inl rfl) (fun b _ nb z => (sb.2 b nb).trans z) ⟨_, e1⟩ (itE_ok e1)
      exact wpAny_pure (k _ (J.kept (t' := s.toks) keep))
    · rintro _ _ ⟨_, _, z⟩
      exact z.elim
theorem mildL {K : PySem.W.Frag} : Mild (srcL K l zs) where
  ok := fun {H H'} h e => by
    have e : H' l = H l := e
    show SqL K H' l zs
    unfold SqL Rd at *
    rw [e]
    exact h
  yl := fun h _ => h
theorem turn_of {P : Program} {w : World} {Rs : Result → Shared → Prop}
    (h : wpAny (model P w) A1.in1 (pyNext (.ref it)) (fun r s' => match r with
      | none => Rs (.ok (.ret .none)) s'
      | some u => wpAny (model P w) A1.in1 (updateSeq q (·.push u)) (fun _ s2 => codeAny (model P w) A1 (.builtin "list.extend.loop" ⟨[.ref q, .ref it, .none], []⟩) Rs s2) (fun e s2 => Rs (.error e) s2) s') (fun e s2 => Rs (.error e) s2) s) :
    codeAny (model P w) A1 (.builtin "list.extend.loop" ⟨[.ref q, .ref it, .none], []⟩) Rs s := by
  apply codeAny_builtin PySem.F.entry_extend_loop
  rw [Around.under_plainId PySem.F.plain_extend_loop ⟨[.ref q, .ref it, .none], []⟩]
  apply wpAny_bind (m := pyNext (.ref it))
  apply wpAny_mono h _ fun _ _ z => z
  rintro (_ | u) s' k
  · exact wpAny_pure k
  · exact wpAny_bind (m := updateSeq q (·.push u)) (wpAny_mono k (fun _ s2 z => wpAny_pure ⟨plainId_quiet PySem.F.plain_extend_loop _, z⟩) fun _ _ z => z)
def sofar (S : Src) (H0 : Hp) (it q : Addr) (i : Nat) (ys : List V) : Hp := upd (upd H0 it (S.at it i)) q (.lst ys)
theorem sofar_it {S : Src} {H0 : Hp} {i : Nat} {ys : List V} (ne : q ≠ it) : sofar S H0 it q i ys it = some (S.at it i) := by
  unfold sofar
  rw [upd_ne ne.symm, upd_same]
theorem sofar_other {S : Src} {H0 : Hp} {i : Nat} {ys : List V} {b : Addr} (h1 : b ≠ it) (h2 : b ≠ q) : sofar S H0 it q i ys b = H0 b := by
  unfold sofar
  rw [upd_ne h2, upd_ne h1]
theorem fill {S : Src} {H0 : Hp} {Rs : Result → Shared → Prop} (Y : Steps X A1.in1 it S) (ne : q ≠ it) (small : S.len ≤ sz) (okF : ∀ i ys, S.ok (sofar S H0 it q i ys)) (ylF : ∀ i ys j v, S.yl j v (sofar S H0 it q i ys) → S.yl j v H0)
    (done : ∀ s ys, ys.length = S.len → S.all ys H0 → Inv X pins σ (upd (put H0 it (S.fin it)) q (.lst ys)) s → Rs (.ok (.ret .none)) s) :
    ∀ (left i : Nat) (ys : List V) (s : Shared), i + left = S.len → ys.length = i → S.all ys H0 → Inv X pins σ (sofar S H0 it q i ys) s → codeAny (model X.prog X.w) A1 (.builtin "list.extend.loop" ⟨[.ref q, .ref it, .none], []⟩) Rs s := by
  intro left
  induction left with
  | zero =>
    intro i ys s e1 e2 al I
    have e1 : i = S.len := e1
    subst e1
    refine turn_of (Y.last I (sofar_it ne) (okF _ _) fun s' J => ?_)
    have same : put (sofar S H0 it q S.len ys) it (S.fin it) = upd (put H0 it (S.fin it)) q (.lst ys) := by
      funext b
      by_cases b1 : b = it
      · subst b1
        rw [upd_ne ne.symm]
        exact (if_pos rfl).trans (if_pos rfl).symm
      · rw [put_ne b1]
        by_cases b2 : b = q
        · subst b2
          unfold sofar
          rw [upd_same, upd_same]
        · rw [sofar_other b1 b2, upd_ne b2, put_ne b1]
    rw [same] at J
    exact done _ ys e2 al J
  | succ left ih =>
    intro i ys s e1 e2 al I
    refine turn_of (Y.more I (sofar_it ne) (okF _ _) (by omega) fun v u s' y r J => ?_)
    have here : upd (sofar S H0 it q i ys) it (S.at it (i + 1)) q = some (.lst ys) := by
      rw [upd_ne ne]
      exact upd_same
    obtain ⟨_, its, cap, r2, long, e⟩ := J.lstM here
    have room : its.length < sizeLine := by
      rw [sizeLine_eq]
      have : S.len ≤ 16777216 := small
      omega
    refine wpAny_updateSeq e rfl ?_ (by rw [List.size_toArray]; omega) (by show (its.toArray.push u).size ≤ _; rw [Array.size_push, List.size_toArray]; omega)
    refine ih (i + 1) (ys ++ [v]) _ (by omega) (by simp [e2]) (fun j x hj => ?_) ?_
    · by_cases jl : j < ys.length
      · rw [List.getElem?_append_left jl] at hj
        exact al j x hj
      · have je : j = i := by
          have := get_lt hj
          simp only [List.length_append, List.length_singleton] at this
          omega
        subst je
        rw [List.getElem?_append_right (by omega), e2, Nat.sub_self] at hj
        cases hj
        exact ylF _ _ _ _ y
    · have K := J.lset (f := (·.push u)) (its' := its ++ [u]) (t' := s'.toks) here e (by simp) (r2.append (.cons r .nil)) (by simp only [List.length_append, List.length_singleton]; omega)
      have same : upd (upd (sofar S H0 it q i ys) it (S.at it (i + 1))) q (.lst (ys ++ [v])) = sofar S H0 it q (i + 1) (ys ++ [v]) := by
        funext b
        by_cases b2 : b = q
        · subst b2
          rw [upd_same]
          exact upd_same.symm
        · by_cases b1 : b = it
          · subst b1
            rw [upd_ne b2, upd_same, sofar_it ne]
          · rw [upd_ne b2, upd_ne b1, sofar_other b1 b2, sofar_other b1 b2]
      rwa [same] at K
end
def spIt (C : Addr) (fl : Str) (mk : V → Src → Prop) : Sp := fun vs H Q _ => ∃ a dx fs u S, vs = [.ref a] ∧ H a = some (.ins C dx fs) ∧ fs.lookup fl = some u ∧ mk u S ∧ S.ok H ∧ ∀ it, H it = none → Q (.ref it) (upd H it (S.at it 0))
structure IterC (K : PySem.W.Frag) (C fi fl : Addr) : Prop where
  it : PySem.W.findIn K (.ref C) "__iter__" = some (some (.ref fi))
  itF : PySem.W.isFn K (.ref fi) = true
  ln : PySem.W.findIn K (.ref C) "__len__" = some (some (.ref fl))
  lnF : PySem.W.isFn K (.ref fl) = true
def askLen (K : PySem.W.Frag) (mg : Str → Option Value) (m : Fn) (S : Src) (a q it : Addr) (H : Hp) (Q : VK) : Prop :=
  spM K mg 1 m [.ref a] (upd H it (S.at it 0)) (fun v H2 => ∃ n : Int, v = .int n ∧ 0 ≤ n ∧ n ≤ sz ∧ H2 q = some (.lst []) ∧ H2 it = some (S.at it 0) ∧ S.ok H2 ∧ S.len ≤ sz ∧
    ∀ ys, ys.length = S.len → S.all ys H2 → Q (.ref q) (upd (put H2 it (S.fin it)) q (.lst ys))) E0
def rListO (K : PySem.W.Frag) (mg : Str → Option Value) (C : Addr) (fl : Str) (mk : V → Src → Prop) (m : Fn) : List V → Hp → VK → Prop := fun xs H Q => ∃ a dx fs u S, xs = [.ref a] ∧ H a = some (.ins C dx fs) ∧ fs.lookup fl = some u ∧ mk u S ∧ S.ok H ∧
  ∀ q it, H q = none → H it = none → q ≠ it → askLen K mg m S a q it (upd H q (.lst [])) Q
theorem hintO {M : Model} {A : Around} {E : Value → Shared → Prop} {Q : Bool → Shared → Prop} {K : PySem.W.Frag} {ox : Obj} {od : Option Obj} {a C fl : Addr} {s : Shared} (hl : PySem.W.findIn K (.ref C) "__len__" = some (some (.ref fl))) (hK : K.In s.heap) (J : PySem.W.InstAt s.heap a ox C od)
    (h : wpAny M A (call (.builtin "len") [.ref a]) (fun v s' => ∃ n t, v = .int n t ∧ 0 ≤ n ∧ n ≤ sz ∧ Q (n != 0) s') (fun _ _ => False) s) : wpAny M A (Builtin.List.listLengthHint (.ref a)) Q E s := by
  have few : ∀ n : Int, n ≤ sz → Builtin.List.listTooLong n.toNat = false := fun n hi => notLongL (by rw [sizeLine_eq]; have : n ≤ (16777216 : Nat) := hi; omega)
  unfold Builtin.List.listLengthHint
  refine wpAny_bind (wpAny_bind (J.type.here ((PySem.W.looks_findIn hK hl).here (PySem.W.KFB.if_not rfl (wpAny_ite_split (fun _ => wpAny_bind (wpAny_rule (wpAny_bind (wpAny_attempt (wpAny_mono h ?_ fun _ _ z => z.elim))))) fun no => absurd rfl no)))))
  rintro _ s' ⟨n, t, rfl, lo, hi, q⟩
  exact wpAny_bind (m := asInt? (.int n t)) (wpAny_pure (PySem.W.KFB.if_not (few n hi) (wpAny_pure q)))
section
variable {X : Cx} {ea : EA} {Wx : WX} {m : Fn} {k n : Nat} {f C : Addr} {fd : FuncData} {ps : List Str} {nm : Str} {A A1 : Around} {pins : List (Addr × Obj)} {σ : L2.St} {H : Hp} {s : Shared}
theorem call_un {Q : VK} {us : List Value} {vs : List V} {sp : Sp} {kk : Nat} (sb : Sub X kk A1) (F : FnOk X.prog X.w X.K X.mg X.base (L2.CX X.prog X.w) kk f fd ps sp) (hb : Binds X.K fd ps []) (I : Inv X pins σ H s) (r : Vals vs us) (h : sp vs H Q E0) :
    wpAny (model X.prog X.w) A1 (call (.ref f) us) (fun u s' => ∃ v H', Inv X pins σ H' s' ∧ RelV v u ∧ Q v H' ∧ Un (frs X.stack) [] H H' s.heap s'.heap) (fun _ _ => False) s := by
  have all := F.run A1 X.stack s H ⟨us, []⟩ us vs Q E0 sb.room (Sub.env0 sb I) (binds0 (n := 0) hb I (by rw [← r.length]; exact F.len _ _ _ _ h)) r h
  refine wpAny_call (codeAny_mono all ?_)
  rintro (er | (_ | _ | _ | u)) s' q
  · obtain ⟨_, _, _, _, _, _, _, _, _, _, _, _, z⟩ := q
    exact z
  · exact q.elim
  · exact q.elim
  · exact q.elim
  · obtain ⟨v, H', J, rv, z⟩ := I.after (Q := fun v H' => Q v H' ∧ Un (frs X.stack) [] H H' s.heap s'.heap) (by
      obtain ⟨v, H', e1, e2, un, e4, rv, z⟩ := q
      exact ⟨v, H', e1, e2, un, e4, rv, z, un⟩)
    exact ⟨v, H', J, rv, z.1, z.2⟩
variable {fi flA : Addr} {fdI fdL : FuncData} {psI psL : List Str} {fl : Str} {mk : V → Src → Prop} {a q : Addr} {dx : Addr} {fs : List (Str × V)} {u : V} {S : Src} {Q : VK} {Rs : Result → Shared → Prop}
structure IterP (X : Cx) (C : Addr) (fl : Str) (mk : V → Src → Prop) (n : Nat) (m : Fn) (fi flA : Addr) (fdI fdL : FuncData) (psI psL : List Str) : Prop where
  cls : IterC X.K C fi flA
  FI : FnOk X.prog X.w X.K X.mg X.base (L2.CX X.prog X.w) n fi fdI psI (spIt C fl mk)
  bI : Binds X.K fdI psI []
  FL : FnM X.prog X.w X.K X.mg X.base n flA fdL psL m
  one : psL.length = 1
  bL : Binds X.K fdL psL []
def Good (X : Cx) (A : Around) (mk : V → Src → Prop) : Prop := ∀ u S, mk u S → Mild S ∧ ∀ {pins : List (Addr × Obj)} {σ : L2.St} {H : Hp} {s : Shared}, Inv X pins σ H s → S.ok H → (∃ o, s.heap.get? S.src = some o) ∧ ∀ it, s.heap.get? it = none → Steps X A it S
theorem touch {M : Model} {E : Value → Shared → Prop} {P : PySem.Fin → Shared → Prop} {c : Sem PySem.Fin} {nm : String} (I : Inv X pins σ H s) (hq : H q = some (.lst [])) (k : ∀ s', Inv X pins σ H s' → wpAny M A c P E s') :
    wpAny M A (do rule nm; Builtin.List.listTouch (.ref q); c) P E s := by
  obtain ⟨_, its, cap, r, _, e⟩ := I.lstM hq
  cases r
  have J := I.lset (f := (·.push Value.none)) (its' := [Value.none]) (ys := [.non]) (t' := s.toks) hq e (by simp) (.cons rfl .nil) (by rw [List.length_singleton, sizeLine_eq]; decide)
  obtain ⟨_, its2, cap2, r2, _, e2⟩ := J.lstM upd_same
  obtain ⟨u2, rfl, _⟩ := r2.one
  have J2 := J.lset (f := (·.pop)) (its := [u2]) (its' := []) (ys := []) (t' := s.toks) upd_same e2 (by rfl) .nil (Nat.zero_le _)
  have same : upd (upd H q (.lst [.non])) q (.lst []) = H := by
    rw [upd_upd]
    funext b
    by_cases hb : b = q
    · rw [hb, upd_same, hq]
    · exact upd_ne hb
  rw [same] at J2
  refine wpAny_bind (wpAny_rule (wpAny_bind ?_))
  show wpAny M A (updateSeq q (·.push .none) >>= fun _ => updateSeq q (·.pop)) _ _ _
  exact wpAny_bind (wpAny_updateSeq e rfl (wpAny_updateSeq e2 rfl (k _ J2) (Nat.le_trans (by decide : 1 ≤ 1) (by rw [sizeLine_eq]; decide)) (Nat.zero_le _)))
theorem extendO (hh : A1.handled = none) (sb : Sub X (n + 1) A1.in1) (p : IterP X C fl mk n m fi flA fdI fdL psI psL) (good : Good X A1.in1 mk) (hmk : mk u S) (I : Inv X pins σ H s) (ha : H a = some (.ins C dx fs)) (hfl : fs.lookup fl = some u) (hq : H q = some (.lst [])) (ok : S.ok H) (nq : S.src ≠ q)
    (hs : ∀ it, H it = none → askLen X.K X.mg m S a q it H Q) (done : ∀ s' H', Inv X pins σ H' s' → Q (.ref q) H' → Rs (.ok (.ret .none)) s') :
    wpAny (model X.prog X.w) A1.in1 (Builtin.List.listExtendWith (.ref q) (.ref a) .none) (fun fin s' => match fin with
      | .done f => Rs (.ok f) s'
      | .again c => c.quiet = true ∧ codeAny (model X.prog X.w) A1 c Rs s') (fun e s' => Rs (.error e) s') s := by
  obtain ⟨mild, gd⟩ := good u S hmk
  have qa : q ≠ a := fun z => by rw [z, ha] at hq; cases hq
  have other : (Builtin.List.listSameRef (.ref q) (.ref a) || Value.ref C == Value.type "list" || Value.ref C == Value.type "tuple") = false := by
    rw [show Builtin.List.listSameRef (.ref q) (.ref a) = false from by simp [Builtin.List.listSameRef, qa]]
    rfl
  have self : Vals [V.ref a] [Value.ref a] := .cons rfl .nil
  obtain ⟨_, _, J⟩ := inst_of I ha
  obtain ⟨_, fr⟩ := I.fr
  unfold Builtin.List.listExtendWith
  refine wpAny_bind (J.type.here ?_)
  rw [if_neg (by rw [other]; exact Bool.false_ne_true)]
  refine wpAny_bind (PySem.W.owit_iter fr I.ok.mod.kin J p.cls.it p.cls.itF (wpAny_mono (call_un (Q := fun v H' => ∃ it, v = .ref it ∧ H it = none ∧ H' = upd H it (S.at it 0)) (sb.mono (Nat.le_succ n)) p.FI p.bI I self ⟨a, dx, fs, u, S, rfl, ha, hfl, hmk, ok, fun it z => ⟨it, rfl, z, rfl⟩⟩) ?_ fun _ _ z => z.elim))
  rintro _ s1 ⟨_, _, I1, r1, ⟨it, rfl, hit, rfl⟩, un⟩
  cases r1
  have new : s.heap.get? it = none := by
    cases e : s.heap.get? it with
    | none => rfl
    | some o =>
      have := un.free it o e hit (fun z => nomatch z)
      rw [upd_same] at this
      cases this
  obtain ⟨⟨oS, alive⟩, st⟩ := gd I ok
  have Y := st it new
  have ns : S.src ≠ it := fun z => by rw [z, new] at alive; cases alive
  have ni : q ≠ it := fun z => by rw [z, hit] at hq; cases hq
  have na : a ≠ it := fun z => by rw [z, hit] at ha; cases ha
  obtain ⟨T, im, ty, slot⟩ := Y.ty I1 upd_same
  unfold PySem.W.OwitIt
  refine wpAny_specialOf (name := Str.ofString "__next__") ty slot.lookup ?_
  have ha1 : upd H it (S.at it 0) a = some (.ins C dx fs) := by rw [upd_ne na]; exact ha
  obtain ⟨_, _, J1⟩ := inst_of I1 ha1
  obtain ⟨_, fr1⟩ := I1.fr
  have owed := hs it hit
  unfold askLen at owed
  rw [← p.one] at owed
  dsimp only
  refine wpAny_bind (wpAny_holding (hintO p.cls.ln I1.kIn J1 (PySem.W.len_K fr1 I1.ok.mod.kin J1 p.cls.ln p.cls.lnF (wpAny_mono (call_un (Sub.in1 sb) p.FL.ok p.bL I1 self owed) ?_ fun _ _ z => z))))
  rintro _ s2 ⟨_, H2, I2, r2, ⟨i, rfl, lo, hi, hq2, hi2, ok2, few, q2⟩, _⟩
  obtain ⟨t, rfl⟩ := r2
  have below : (i : Int) < 2 ^ 63 := by have : i ≤ (16777216 : Nat) := hi; omega
  refine ⟨⟨lo, below⟩, i, _, rfl, lo, hi, ?_⟩
  have run : ∀ s3, Inv X pins σ H2 s3 → codeAny (model X.prog X.w) A1 (.builtin "list.extend.loop" ⟨[.ref q, .ref it, .none], []⟩) Rs s3 := fun s3 I3 => by
    refine fill (S := S) (H0 := H2) Y ni few (fun i ys => mild.ok ok2 (sofar_other ns nq)) (fun i ys j v y => mild.yl y fun b xs e => ?_) (fun s4 ys e al I4 => done s4 _ I4 (q2 ys e al)) S.len 0 [] s3 (Nat.zero_add _) rfl (fun j v e => by simp at e) ?_
    · by_cases b1 : b = it
      · rw [b1, sofar_it ni] at e; cases e
      · by_cases b2 : b = q
        · subst b2
          unfold sofar at e
          rw [upd_same] at e; cases e
        · rwa [sofar_other b1 b2] at e
    · have same : sofar S H2 it q 0 [] = H2 := by
        funext b
        by_cases b2 : b = q
        · subst b2
          exact upd_same.trans hq2.symm
        · by_cases b1 : b = it
          · rw [b1, sofar_it ni, hi2]
          · exact sofar_other b1 b2
      rwa [same]
  have go : ∀ s3, Inv X pins σ H2 s3 → wpAny (model X.prog X.w) A1.in1 (again (.builtin "list.extend.loop" ⟨[.ref q, .ref it, .none], []⟩)) (fun fin s' => match fin with
      | .done f => Rs (.ok f) s'
      | .again c => c.quiet = true ∧ codeAny (model X.prog X.w) A1 c Rs s') (fun e s' => Rs (.error e) s') s3 := fun s3 I3 => wpAny_pure ⟨plainId_quiet PySem.F.plain_extend_loop _, run s3 I3⟩
  have I2' := I2.tok (s2.toks + 1)
  exact wpAny_ite_split (fun _ => touch I2' hq2 go) fun _ => go _ I2'
theorem call_listO (p : IterP X C fl mk n m fi flA fdI fdL psI psL) (good : Good X X.A.in1.in1 mk) (hr : Room (n + 3) X.A) : CallR X (.type "list") (rListO X.K X.mg C fl mk m) := by
  rintro pins s σ H xs us Q I rv ⟨a, dx, fs, u, S, rfl, ha, hfl, hmk, ok, hs⟩
  obtain ⟨_, rfl, ru⟩ := rv.one
  cases ru
  generalize hn : s.heap.objs.size = q at *
  have free : H q = none := I.hok.fresh (Nat.le_of_eq hn)
  obtain ⟨mild, gd⟩ := good u S hmk
  have nq : S.src ≠ q := fun z => by
    obtain ⟨o, e⟩ := (gd I ok).1
    rw [z] at e
    have lt := Heap.lt_size e
    rw [hn] at lt
    exact Nat.lt_irrefl _ lt
  let s1 : Shared := { s with heap := s.heap.push { cls := .type "list", data := .seq #[] } }
  have laid : s1.heap.get? q = some { cls := .type "list", data := .seq #[] } := by rw [← hn]; exact Heap.get?_push_size _ rfl
  have I1 : Inv X pins σ (upd H q (.lst [])) s1 := by rw [← hn]; exact I.lnew (its := []) (t' := s.toks) .nil (Nat.zero_le _)
  have I2 := I1.lset (f := fun _ => #[]) (its := []) (its' := []) (ys := []) (t' := s.toks) upd_same laid rfl .nil (Nat.zero_le _)
  rw [upd_upd] at I2
  refine callType_codes (Q₁ := fun obj s2 => obj = .ref q ∧ s2 = s1) PySem.F.called_list (PySem.F.typeCall_list_1 _) PySem.F.entry_list_init (code_list_new _ ⟨by rw [← hn], rfl⟩) ?_
  rintro _ _ ⟨rfl, rfl⟩
  refine ⟨⟨_, laid, rfl⟩, PySem.F.args_list_init_2 _ _, ?_⟩
  show wpAny _ _ (Builtin.List.listItems (.ref q) >>= fun old => updateSeq q (fun _ => #[]) >>= fun _ => letGo old.toList.reverse >>= fun _ => Builtin.List.listExtendWith (.ref q) (.ref a) .none) _ _ _
  have items : ∀ {P : Array Value → Shared → Prop} {E : Value → Shared → Prop}, P #[] s1 → wpAny (model X.prog X.w) X.A.in1.in1 (Builtin.List.listItems (.ref q)) P E s1 := fun h => by
    unfold Builtin.List.listItems
    exact wpAny_bind (wpAny_seqItems laid rfl (wpAny_pure h))
  refine wpAny_bind (items (wpAny_bind (wpAny_updateSeq laid rfl (f := fun _ => #[]) (wpAny_bind (wpAny_letGo ?_)) (Nat.zero_le _) (Nat.zero_le _))))
  exact extendO (A1 := X.A.in1) (Rs := wants (fun r s₂ => r = .none ∧ EP X pins σ Q (.ref q) s₂) X.xe) (by exact hr.hd) (Sub.in1 (Sub.in1 (⟨hr, rfl⟩ : Sub X (n + 3) X.A))) p good hmk I2 (by rw [upd_ne (ne_of_none ha free)]; exact ha) hfl upd_same (mild.ok ok (upd_ne nq)) nq
    (fun it z => hs q it free (by
      by_cases e : it = q
      · rw [e, upd_same] at z; cases z
      · rwa [upd_ne e] at z) fun e => by rw [← e, upd_same] at z; cases z)
    fun s' H' I' z => ⟨rfl, .ref q, H', I', rfl, z⟩
theorem goodL : X.A.handled = none → Good X X.A.in1.in1 fun u S => ∃ l zs, u = .ref l ∧ S = srcL X.K l zs := by
  rintro hh _ _ ⟨l, zs, rfl, rfl⟩
  refine ⟨mildL, fun {pins σ H s} I ok => ⟨?_, fun it _ => stepsL hh⟩⟩
  obtain ⟨its, _, ⟨o, _, e, _⟩, _⟩ := I.list (show SqL X.K H l zs from ok)
  exact ⟨o, e⟩
end
end Z
set_option Elab.async false
set_option linter.all false
set_option maxRecDepth 100000
namespace Z
open PySem PySem.Spec PyProof.Rows L2
section
variable {K : PySem.W.Frag} {mg : Str → Option Value} {ea : EA} {io io' : List Addr} {Fr Fr' Fr2 : Addr → Prop} {s s' s2 : S} {σ σ' : L2.St} {H H' : Hp} {w : W} {v : V} {c c' : Cell} {o o' : HO} {a p C : Addr} {ws : List W} {vs : List V} {M M' : Addr → Prop} {Wx : WX}
theorem Sim.change (x : Sim K mg ea io Fr' s σ H) (sub : ∀ b, Fr2 b → Fr' b) (keep : ∀ b o, H b = some o → ¬ Ms io Fr' s σ b → H' b = some o)
    (same : ∀ b, (b ∈ io ∨ ∃ (i : Nat) (c : Cell), s.r[i]? = some (.own c) ∧ σ[i]? = some (some (V.ref b))) → H' b = H b) (tr : ∀ b, Fr2 b → ∃ o, H' b = some o ∧ Nt o) : Sim K mg ea io Fr2 s σ H' := by
  have q : Pers io (Ms io Fr' s σ) H io (Ms io Fr2 s σ) H' := ⟨keep, fun b z => .inl (Ms.mono sub b z), fun _ _ e => e⟩
  refine ⟨x.len, ⟨x.g.len, fun n b c h1 h2 => ?_, x.g.nd, fun b hb z => x.g.dj b hb (FrO.mono sub b z), fun b z => ?_⟩, fun i u e => ?_, fun i d e => ?_, x.dist, fun i y e => ?_⟩
  · obtain ⟨o, h3, h4⟩ := x.g.cell n b c h1 h2
    exact ⟨o, by rw [same b (.inl (List.mem_of_getElem? h1))]; exact h3, h4.pers q⟩
  · rcases z with z | ⟨i, d, h1, h2⟩
    · exact tr b z
    · obtain ⟨b', o, k1, k2, k3, _⟩ := x.own i d h1
      rw [h2] at k1; cases k1
      exact ⟨o, by rw [same b (.inr ⟨i, d, h1, h2⟩)]; exact k2, k3.nt⟩
  · obtain ⟨v, h1, h2⟩ := x.val i u e
    exact ⟨v, h1, h2.pers q⟩
  · obtain ⟨b, o, h1, h2, h3, h4⟩ := x.own i d e
    exact ⟨b, o, h1, by rw [same b (.inr ⟨i, d, e, h1⟩)]; exact h2, h3.pers q, fun z => h4 (sub b z)⟩
  · obtain ⟨h1, h2⟩ := x.exc i y e
    exact ⟨h1, h2.pers q⟩
def fldS (nm fl : Str) (rd : W → Option (List W)) : W → Option (List W)
  | .obj nm' fs => if nm' = nm then (fs.lookup fl).bind rd else none
  | _ => none
def rdL : W → Option (List W)
  | .lst zs => if zs.length ≤ sz then some zs else none
  | .frl zs => if zs.length ≤ sz then some zs else none
  | _ => none
def listO (nm fl : Str) (rd : W → Option (List W)) (m : Fn) : List W → Mo RV
  | [w] => fun s => match (derefW s w).bind (fldS nm fl rd) with
    | some zs => (match callG m [w] s with
      | some (.ok (.val (.int n)), s') => if 0 ≤ n ∧ n ≤ sz then some (.ok (.own (.lst zs)), s') else none
      | _ => none)
    | none => none
  | _ => stk
def mListS (nm fl : Str) (rd : W → Option (List W)) (m : Fn) (ms : Mo (List RV)) : Mo RV := bnd ms fun xs => bnd (freezeAll xs) fun ws => listO nm fl rd m ws
def mListO (nm fl : Str) (m : Fn) (ms : Mo (List RV)) : Mo RV := mListS nm fl rdL m ms
def RdOk (K : PySem.W.Frag) (mg : Str → Option Value) (mk : V → Src → Prop) (rd : W → Option (List W)) : Prop := ∀ {io : List Addr} {M : Addr → Prop} {H : Hp} {w : W} {v : V} {zs : List W}, Rw K mg io M H w v → rd w = some zs →
  ∃ S, mk v S ∧ S.ok H ∧ S.len = zs.length ∧ zs.length ≤ sz ∧ ∀ {io' : List Addr} {M' : Addr → Prop} {H' : Hp}, Pers io M H io' M' H' → (∀ b, M' b → ∃ o, H' b = some o ∧ Nt o) → S.ok H' ∧ ∀ ys, ys.length = S.len → S.all ys H' → Rws K mg io' M' H' zs ys
theorem rdL_ok : RdOk K mg (fun u S => ∃ l zs, u = .ref l ∧ S = srcL K l zs) rdL := by
  intro io M H w v zs R e
  have two : ∀ {l : Addr} {vs : List V}, v = .ref l → zs.length ≤ sz → SqL K H l vs → Rws K mg io M H zs vs → (∀ {io' : List Addr} {M' : Addr → Prop} {H' : Hp}, Pers io M H io' M' H' → SqL K H' l vs) → ∃ S, (∃ l zs, v = .ref l ∧ S = srcL K l zs) ∧ S.ok H ∧ S.len = zs.length ∧ zs.length ≤ sz ∧
      ∀ {io' : List Addr} {M' : Addr → Prop} {H' : Hp}, Pers io M H io' M' H' → (∀ b, M' b → ∃ o, H' b = some o ∧ Nt o) → S.ok H' ∧ ∀ ys, ys.length = S.len → S.all ys H' → Rws K mg io' M' H' zs ys := by
    rintro l vs rfl few sq rw stay
    refine ⟨srcL K l vs, ⟨l, vs, rfl, rfl⟩, sq, rw.1.symm, few, fun p _ => ⟨stay p, fun ys e al => ?_⟩⟩
    have same : ys = vs := List.ext_getElem? fun j => by
      by_cases jl : j < ys.length
      · rw [List.getElem?_eq_getElem jl]
        exact (al j _ (List.getElem?_eq_getElem jl)).symm
      · rw [List.getElem?_eq_none (by omega), List.getElem?_eq_none (by have : ys.length = vs.length := e; omega)]
    rw [same]
    exact rw.pers p
  unfold rdL at e
  split at e
  · split at e
    · rename_i few
      cases e
      cases R with
      | lst h n l q => exact two rfl few (.inl (.inl h)) ⟨l, q⟩ fun p => .inl (.inl (p.keep _ _ h n))
    · cases e
  · split at e
    · rename_i few
      cases e
      cases R with
      | frl h l q =>
        rcases h with ⟨h, n⟩ | h
        · exact two rfl few (.inl h) ⟨l, q⟩ fun p => .inl (p.rd h n)
        · exact two rfl few (.inr h) ⟨l, q⟩ fun p => .inr h
    · cases e
  · cases e
theorem fldS_ok {nm fl : Str} {mk : V → Src → Prop} {rd : W → Option (List W)} {zs : List W} (hC : mg nm = some (.ref C)) (ok : RdOk K mg mk rd) (R : Rn K mg io M H w v) (e : fldS nm fl rd w = some zs) : ∃ a dx fs u S, v = .ref a ∧ H a = some (.ins C dx fs) ∧ fs.lookup fl = some u ∧ mk u S ∧ S.ok H ∧ S.len = zs.length ∧ zs.length ≤ sz ∧
    ∀ {io' : List Addr} {M' : Addr → Prop} {H' : Hp}, Pers io M H io' M' H' → (∀ b, M' b → ∃ o, H' b = some o ∧ Nt o) → S.ok H' ∧ ∀ ys, ys.length = S.len → S.all ys H' → Rws K mg io' M' H' zs ys := by
  unfold fldS at e
  split at e
  · rename_i nm' fs
    split at e
    · rename_i hn
      subst hn
      obtain ⟨a, C', dx, us, rfl, hm, hH, rk⟩ := R.obj
      rw [hC] at hm
      cases hm
      obtain ⟨x, hlk, hx⟩ := Option.bind_eq_some_iff.mp e
      obtain ⟨u, h1, h2⟩ := Rkv.lookup (vs := us) rk hlk
      obtain ⟨S, g⟩ := ok h2 hx
      exact ⟨a, dx, us, u, S, rfl, hH, h1, g⟩
    · cases e
  · cases e
theorem ref_listS {nm fl : Str} {mk : V → Src → Prop} {rd : W → Option (List W)} {m : Fn} {t : TA} {ms : Mo (List RV)} (hC : mg nm = some (.ref C)) (rok : RdOk K mg mk rd) (ha : RefA K mg ea Wx t ms) : RefE K mg ea Wx (fun σ H Q => t σ H fun vs H1 => rListO K mg C fl mk m vs H1 Q) (mListS nm fl rd m ms) := by
  intro σ H io Fr s S0 r0 s' e Q hok hex
  refine arg2 ha S0 e hex fun xs vs s1 H1 io1 e2 px R1 => ?_
  rcases bnd_some e2 with ⟨x, e3, rfl⟩ | ⟨ws, s2, e3, e4⟩
  · obtain ⟨_, _, _, _, q, _⟩ := freezeAll_ok px.1 R1 e3
    cases q
  · obtain ⟨_, m2, S2, ws', q, r2⟩ := freezeAll_ok px.1 R1 e3
    cases q
    have T2 := px.2.less m2
    unfold listO at e4
    split at e4
    case h_2 => cases e4
    rename_i w
    split at e4
    case h_2 => cases e4
    rename_i zs hzs
    split at e4
    case h_2 => cases e4
    rename_i n s3 hcall
    split at e4
    case isFalse => cases e4
    rename_i hn
    cases e4
    obtain ⟨wv, k1, k2⟩ := Option.bind_eq_some_iff.mp hzs
    obtain ⟨v, rr, rfl, h1, h2⟩ := r2.cons_inv
    obtain rfl := h2.nil_inv
    obtain ⟨a, dx, fs, u, Z, rfl, hH, hlk, hmk, hz, hlen, few, stay⟩ := fldS_ok hC rok (deref_ok S2 h1 k1) k2
    refine ⟨a, dx, fs, u, Z, rfl, hH, hlk, hmk, hz, fun q it hq hit hne => ?_⟩
    obtain ⟨S3, T3, nf3⟩ := S2.alloc (o := .lst []) hq
    have hit3 : upd H1 q (.lst []) it = none := by rw [upd_ne (Ne.symm hne)]; exact hit
    obtain ⟨S4, T4, nf4⟩ := S3.alloc (o := Z.at it 0) hit3
    have T34 : Stp io1 (Ms io1 Fr s2 σ) Fr H1 io1 (Ms io1 (pls (pls Fr q) it) s2 σ) (upd (upd H1 q (.lst [])) it (Z.at it 0)) := T3.trans (T4.frless fun b z => .inl z)
    have R4 := r2.pers T34.p
    refine spM_use (n := 1) (Wx := fun _ _ _ _ => False) (σ := σ) S4 R4 rfl hcall (fun x q' v H2 io2 p2 => ?_) (fun _ q' => by cases q')
    cases q'
    obtain ⟨S5, T5, R5⟩ := p2
    cases R5
    have hq2 : H2 q = some (.lst []) := by rw [T5.fr q (.inl (.inr rfl)), upd_ne hne, upd_same]
    have hi2 : H2 it = some (Z.at it 0) := by rw [T5.fr it (.inr rfl), upd_same]
    have T35 := T34.trans (T5.frless (Fr' := Fr) fun b z => .inl (.inl z))
    obtain ⟨okZ, rows⟩ := stay T35.p fun b z => S5.trkN z
    refine ⟨n, rfl, hn.1, hn.2, hq2, hi2, okZ, by rw [hlen]; exact few, fun vs lv al => ?_⟩
    have nio : ∀ b, (b = q ∨ b = it) → ¬ (b ∈ io2 ∨ ∃ (i : Nat) (c : Cell), s'.r[i]? = some (.own c) ∧ σ[i]? = some (some (V.ref b))) := fun b hb z => by
      have hF : pls (pls Fr q) it b := hb.elim (fun e => .inl (.inr e)) .inr
      rcases z with z | ⟨i, c, h1, h2⟩
      · exact S5.g.dj b z (.inl hF)
      · obtain ⟨b', o, k1, _, _, k4⟩ := S5.own i c h1
        rw [h2] at k1; cases k1
        exact k4 hF
    have nFr : ∀ b, (b = q ∨ b = it) → ¬ Fr b := fun b hb z => by
      obtain ⟨o, ho, _⟩ := S2.g.fr b (.inl z)
      rcases hb with rfl | rfl
      · rw [hq] at ho; cases ho
      · rw [hit] at ho; cases ho
    have S6 : Sim K mg ea io2 (pls Fr q) s' σ (upd (put H2 it (Z.fin it)) q (.lst vs)) := by
      refine S5.change (fun b z => .inl z) (fun b o hb hM => ?_) (fun b hb => ?_) (fun b z => ?_)
      · have n1 : b ≠ q := fun z => hM (.inr (.inl (.inl (.inr z))))
        have n2 : b ≠ it := fun z => hM (.inr (.inl (.inr z)))
        rw [upd_ne n1, put_ne n2]; exact hb
      · have n1 : b ≠ q := fun z => nio b (.inl z) hb
        have n2 : b ≠ it := fun z => nio b (.inr z) hb
        rw [upd_ne n1, put_ne n2]
      · rcases z with z | z
        · have n1 : b ≠ q := fun e => nFr b (.inl e) z
          have n2 : b ≠ it := fun e => nFr b (.inr e) z
          obtain ⟨o, ho, n⟩ := S5.g.fr b (.inl (.inl (.inl z)))
          exact ⟨o, by rw [upd_ne n1, put_ne n2]; exact ho, n⟩
        · exact ⟨_, by rw [z, upd_same], by intro _ z; cases z⟩
    have T6 : Stp io1 (Ms io1 Fr s2 σ) Fr H1 io2 (Ms io2 (pls Fr q) s' σ) (upd (put H2 it (Z.fin it)) q (.lst vs)) := by
      refine ⟨⟨fun b o hb hM => ?_, fun b z => T35.p.new b (Ms.mono (fun b z => .inl z) b z), T35.p.ext⟩, fun b z => ?_, fun b o hb => ?_⟩
      · have n1 : b ≠ q := fun e => by subst e; rw [hq] at hb; cases hb
        have n2 : b ≠ it := fun e => by subst e; rw [hit] at hb; cases hb
        rw [upd_ne n1, put_ne n2]; exact T35.p.keep b o hb hM
      · have n1 : b ≠ q := fun e => nFr b (.inl e) z
        have n2 : b ≠ it := fun e => nFr b (.inr e) z
        rw [upd_ne n1, put_ne n2]; exact T35.fr b z
      · have n1 : b ≠ q := fun e => by subst e; rw [hq] at hb; cases hb
        have n2 : b ≠ it := fun e => by subst e; rw [hit] at hb; cases hb
        rw [upd_ne n1, put_ne n2]; exact T35.trk b o hb
    have p6 : Pers io2 (Ms io2 (pls (pls Fr q) it) s' σ) H2 io2 (Ms io2 (pls Fr q) s' σ) (upd (put H2 it (Z.fin it)) q (.lst vs)) := by
      refine ⟨fun b o hb hM => ?_, fun b z => .inl (Ms.mono (fun b z => .inl z) b z), fun _ _ e => e⟩
      have n1 : b ≠ q := fun z => hM (.inr (.inl (.inl (.inr z))))
      have n2 : b ≠ it := fun z => hM (.inr (.inl (.inr z)))
      rw [upd_ne n1, put_ne n2]; exact hb
    refine hok _ rfl _ _ io2 ⟨q, .lst vs, rfl, upd_same, fun z => ?_, S6, T2.trans T6, vs, rfl, (rows vs lv al).pers p6⟩
    rcases z with z | z
    · exact nFr q (.inl rfl) z
    · exact nio q (.inl rfl) (.inr z)
end
section
variable {X : Cx} {ea : EA} {Wx : WX} {m : Fn} {k n : Nat} {f C fi flA : Addr} {fdI fdL : FuncData} {psI psL : List Str} {nm fl : Str} {e : Expr} {ms : Mo (List RV)} {pos p : Pos} {mk : V → Src → Prop} {rd : W → Option (List W)}
theorem pee_listS (hC : X.mg nm = some (.ref C)) (rok : RdOk X.K X.mg mk rd) (good : Good X X.A.in1.in1 mk) (pt : IterP X C fl mk n m fi flA fdI fdL psI psL) (hr : Room (n + 3) X.A) (hm : X.mg "list" = none) (ha : Pea X ea Wx [e] ms) (hg : Gl X "list" := by rfl) (hv : bootBuiltins "list" = some (.type "list") := by decide +kernel)
    (st : starEach [e] X.env = (false, eval e X.env) :: starEach [] X.env := by rfl) (npl : (backTo pos (starEach [] X.env)).any (·.1) = false := by rfl) : Pee X ea Wx (.Call (.Name "list" p) [e] [] pos) (mListS nm fl rd m ms) :=
  let ⟨_, q1, r1⟩ := ha.ex; ⟨_, pe_callTy (call_listO pt good hr) hg hm hv q1 (by decide) (by decide) st npl, ref_listS hC rok r1⟩
theorem pee_listO (hC : X.mg nm = some (.ref C)) (hc : IterC X.K C fi flA) (FI : FnOk X.prog X.w X.K X.mg X.base (L2.CX X.prog X.w) n fi fdI psI (spIt C fl fun u S => ∃ l zs, u = .ref l ∧ S = srcL X.K l zs)) (bI : Binds X.K fdI psI [])
    (FL : FnM X.prog X.w X.K X.mg X.base n flA fdL psL m) (hp : psL.length = 1) (bL : Binds X.K fdL psL []) (hr : Room (n + 3) X.A) (hm : X.mg "list" = none) (ha : Pea X ea Wx [e] ms) (hg : Gl X "list" := by rfl) (hv : bootBuiltins "list" = some (.type "list") := by decide +kernel)
    (st : starEach [e] X.env = (false, eval e X.env) :: starEach [] X.env := by rfl) (npl : (backTo pos (starEach [] X.env)).any (·.1) = false := by rfl) : Pee X ea Wx (.Call (.Name "list" p) [e] [] pos) (mListO nm fl m ms) :=
  pee_listS hC rdL_ok (goodL hr.hd) ⟨hc, FI, bI, FL, hp, bL⟩ hr hm ha hg hv st npl
end
end Z
set_option Elab.async false
set_option linter.all false
set_option maxRecDepth 100000
namespace Z
open PySem PySem.Spec PyProof.Rows L2
theorem defItS {P : Program} {w : World} {K : PySem.W.Frag} {mg : Str → Option Value} {base : Heap} {x qual fl self : Str} {st : Stmt} {f C : Addr} {fd : FuncData} {p1 p2 p3 p4 p5 : Pos} {mk : V → Src → Prop} (F : Fun K x qual st f fd) (S : FnScope [self] [self] (defScope st))
    (hb : defBody st = [.Return (some (.Call (.Name "iter" p1) [.Attribute (.Name self p2) fl p3] [] p4)) p5]) (hC : Cls K C) (hno : NoAttr K C fl) (hm : mg "iter" = none)
    (hloc : (defScope st).names.lookup self = some .local) (hgl : ∀ (n : Addr) (cd : Value), (envOfC qual (defScope st) n f cd).kindOf "iter" = some .globalImplicit)
    (hat : ∀ env, attributeBase (.Name self p2) fl env (eval (.Name self p2) env) = eval (.Name self p2) env) (hst : ∀ env, starEach [.Attribute (.Name self p2) fl p3] env = (false, eval (.Attribute (.Name self p2) fl p3) env) :: starEach [] env)
    (ci : ∀ X : Cx, X.K = K → CallR X (.builtin "iter") fun xs H Q => ∃ u Z, xs = [u] ∧ mk u Z ∧ Z.ok H ∧ ∀ it, H it = none → Q (.ref it) (upd H it (Z.at it 0)))
    (hd : (self == ("__debug__" : Str)) = false := by decide) (hcd : (self == ("__classdict__" : Str)) = false := by decide) : FnOk P w K mg base (L2.CX P w) 1 f fd [self] (spIt C fl mk) := by
  refine F.okX S (by rintro vs H Q E ⟨_, _, _, _, _, rfl, _⟩; rfl) fun cdv A outer s H vs Q E hr h => ?_
  obtain ⟨a, dx, fs, u, Z, rfl, ha, hlk, hmk, ok, q⟩ := h
  rw [hb]
  let X := cxOf (L2.CX P w) P w K mg base [self] qual (defScope st) f cdv A outer s H E
  have me : PE X (.Name self p2) (tVar 0) := pe_var rfl (.inl hloc) hd hcd
  have call := pe_callB (X := X) (p := p1) (pos := p4) (x := "iter") (ci X rfl) (hgl _ _) hm (by decide +kernel) (pa_cons (pe_fld (f := fl) (pos := p3) me (hat _)) pa_nil (hst _)) (by decide) (by decide) (hst _) rfl
  exact ⟨_, pss_one (ps_ret call), .ref a, rfl, a, C, dx, fs, u, rfl, ha, hC, hno, hlk, u, Z, rfl, hmk, ok, fun it hit => q it hit⟩
theorem defIt {P : Program} {w : World} {K : PySem.W.Frag} {mg : Str → Option Value} {base : Heap} {x qual fl self : Str} {st : Stmt} {f C : Addr} {fd : FuncData} {p1 p2 p3 p4 p5 : Pos} (F : Fun K x qual st f fd) (S : FnScope [self] [self] (defScope st))
    (hb : defBody st = [.Return (some (.Call (.Name "iter" p1) [.Attribute (.Name self p2) fl p3] [] p4)) p5]) (hC : Cls K C) (hno : NoAttr K C fl) (hm : mg "iter" = none)
    (hloc : (defScope st).names.lookup self = some .local) (hgl : ∀ (n : Addr) (cd : Value), (envOfC qual (defScope st) n f cd).kindOf "iter" = some .globalImplicit)
    (hat : ∀ env, attributeBase (.Name self p2) fl env (eval (.Name self p2) env) = eval (.Name self p2) env) (hst : ∀ env, starEach [.Attribute (.Name self p2) fl p3] env = (false, eval (.Attribute (.Name self p2) fl p3) env) :: starEach [] env)
    (hd : (self == ("__debug__" : Str)) = false := by decide) (hcd : (self == ("__classdict__" : Str)) = false := by decide) : FnOk P w K mg base (L2.CX P w) 1 f fd [self] (spIt C fl fun u S => ∃ l zs, u = .ref l ∧ S = srcL K l zs) := by
  refine defItS F S hb hC hno hm hloc hgl hat hst (fun X e => ?_) hd hcd
  subst e
  rintro pins s σ H _ us Q I r ⟨_, _, rfl, ⟨l, zs, rfl, rfl⟩, ok, q⟩
  exact call_iterL pins s σ H _ us Q I r ⟨l, zs, rfl, ok, q⟩
end Z
set_option Elab.async false
set_option linter.all false
set_option maxRecDepth 100000
namespace Z
open PySem PySem.Spec PyProof.Rows L2
section
variable {K : PySem.W.Frag} {mg : Str → Option Value} {ea : EA} {io io' : List Addr} {Fr Fr' Fr2 : Addr → Prop} {s s' s2 : S} {σ σ' : L2.St} {H H' : Hp} {w : W} {v : V} {c c' : Cell} {o o' : HO} {a p C : Addr} {ws : List W} {vs : List V} {M M' : Addr → Prop} {Wx : WX}
theorem ms_cell : ∀ b, Ms (io ++ [a]) Fr { s with G := s.G ++ [c] } σ b → Ms io (pls Fr a) s σ b := fun b z => by
  rcases z with z | z
  · rcases List.mem_append.mp z with z | z
    · exact .inl z
    · exact .inr (.inl (.inr (by simpa using z)))
  · exact .inr (FrO.mono (fun b z => .inl z) b z)
theorem Sim.cell (x : Sim K mg ea io (pls Fr a) s σ H) (ha : H a = some o) (nf : ¬ FrO Fr s.r σ a) (hc : Rc K mg io (Ms io (pls Fr a) s σ) H c o) :
    Sim K mg ea (io ++ [a]) Fr { s with G := s.G ++ [c] } σ H ∧ Stp io (Ms io (pls Fr a) s σ) (pls Fr a) H (io ++ [a]) (Ms (io ++ [a]) Fr { s with G := s.G ++ [c] } σ) H := by
  have q : Pers io (Ms io (pls Fr a) s σ) H (io ++ [a]) (Ms (io ++ [a]) Fr { s with G := s.G ++ [c] } σ) H := ⟨fun _ _ h _ => h, fun b z => .inl (ms_cell b z), fun n b h => by rw [List.getElem?_append_left (get_lt h)]; exact h⟩
  have nio : a ∉ io := fun z => x.g.dj a z (.inl (.inr rfl))
  refine ⟨⟨x.len, ⟨by simp [x.g.len], fun n b d h1 h2 => ?_, ?_, fun b hb z => ?_, fun b z => x.g.fr b (FrO.mono (fun b z => .inl z) b z)⟩, fun i u e => ?_, fun i d e => ?_, x.dist, fun i y e => ?_⟩, q, fun b z => rfl, fun b u e => ⟨u, e⟩⟩
  · rcases Nat.lt_or_ge n io.length with hn | hn
    · rw [List.getElem?_append_left hn] at h1
      rw [List.getElem?_append_left (by rw [← x.g.len]; exact hn)] at h2
      obtain ⟨o, h3, h4⟩ := x.g.cell n b d h1 h2
      exact ⟨o, h3, h4.pers q⟩
    · rw [List.getElem?_append_right hn] at h1
      rw [List.getElem?_append_right (by rw [← x.g.len]; exact hn)] at h2
      rw [← x.g.len] at h2
      cases k : n - io.length with
      | zero =>
        rw [k] at h1 h2
        simp at h1 h2
        subst h1 h2
        exact ⟨o, ha, hc.pers q⟩
      | succ m => rw [k] at h1; simp at h1
  · rw [List.nodup_append]
    exact ⟨x.g.nd, by simp, fun b hb c hc => by simp at hc; subst hc; exact fun z => nio (z ▸ hb)⟩
  · rcases List.mem_append.mp hb with hb | hb
    · exact x.g.dj b hb (FrO.mono (fun b z => .inl z) b z)
    · simp at hb
      subst hb
      exact nf z
  · obtain ⟨v, h1, h2⟩ := x.val i u e
    exact ⟨v, h1, h2.pers q⟩
  · obtain ⟨b, o, h1, h2, h3, h4⟩ := x.own i d e
    exact ⟨b, o, h1, h2, h3.pers q, fun z => h4 (.inl z)⟩
  · obtain ⟨h1, h2⟩ := x.exc i y e
    exact ⟨h1, h2.pers q⟩
end
section
variable {X : Cx} {ea : EA} {Wx : WX} {e : Expr} {m : Mo RV} {x : Str} {pos : Pos}
theorem pee_gint {i : Int} (hm : ∃ t, X.mg x = some (.int i t)) (hg : Gl X x := by rfl) (hd : (x == ("__debug__" : Str)) = false := by decide) : Pee X ea Wx (.Name x pos) (mC (.int i)) :=
  let ⟨_, h⟩ := hm; ⟨_, pe_glob (v := .int i) hg h ⟨_, rfl⟩ hd, ref_c fun _ _ _ => .int i⟩
end
end Z
set_option Elab.async false
set_option linter.all false
set_option maxRecDepth 100000
namespace Z
open PySem PySem.Spec PyProof.Rows L2
theorem hu64 {n : Nat} (h : n + 150 < cLine) : n + 64 < cLine := by omega
theorem hu65 {n : Nat} (h : n + 150 < cLine) : n + 65 < cLine := by omega
theorem hu1 {n : Nat} (h : n + 150 < cLine) : n + 1 < cLine := by omega
theorem tk0 {X : Cx} : Takes X W0 := fun u s' x => by
  obtain ⟨a, B, sI, pins, σ, H, cls, d, _, _, _, _, _, _, _, _, w⟩ := x
  exact w.elim
theorem FnM.mono {P : Program} {w : World} {K : PySem.W.Frag} {mg : Str → Option Value} {base : Heap} {j k : Nat} {f : Addr} {fd : FuncData} {ps : List Str} {m : Fn} (F : FnM P w K mg base j f fd ps m) (h : j ≤ k) : FnM P w K mg base k f fd ps m := ⟨F.ok.mono h⟩
section
variable {K : PySem.W.Frag} {mg : Str → Option Value} {C : Addr}
theorem ClsN.nil {f : Str} : ClsN K mg [] f := fun nm h => by cases h
theorem ClsN.cons {f nm : Str} {nms : List Str} (hm : mg nm = some (.ref C)) (c : Cls K C) (n : NoAttr K C f) (r : ClsN K mg nms f) : ClsN K mg (nm :: nms) f := fun x h => by
  rcases List.mem_cons.mp h with rfl | q
  · exact ⟨C, hm, c, n⟩
  · exact r x q
def HdTab (K : PySem.W.Frag) (mg : Str → Option Value) (c : Value) (tbl : List (Str × Bool)) : Prop := ∀ nm b, tbl.lookup nm = some b → ∀ C, mg nm = some (.ref C) → PySem.W.exmOne K (.ref C) c = some b
theorem HdTab.nil {c : Value} : HdTab K mg c [] := fun nm b h => by cases h
theorem HdTab.cons {c : Value} {tbl : List (Str × Bool)} {nm : Str} {b : Bool} (hm : mg nm = some (.ref C)) (h : PySem.W.exmOne K (.ref C) c = some b) (r : HdTab K mg c tbl) : HdTab K mg c ((nm, b) :: tbl) := fun x b' e D hD => by
  rw [List.lookup_cons] at e
  by_cases q : (x == nm) = true
  · have hx : x = nm := eq_of_beq q
    rw [q] at e
    cases e
    subst hx
    rw [hm] at hD
    cases hD
    exact h
  · have q' : (x == nm) = false := by simpa using q
    rw [q'] at e
    exact r x b' e D hD
end
section
variable {P : Program} {w : World} {K : PySem.W.Frag} {mg : Str → Option Value} {base : Heap} {x qual : Str} {st : Stmt} {f : Addr} {fd : FuncData} {N ps : List Str} {k n : Nat} {body : Mo Fl}
theorem defM2 (F : Fun K x qual st f fd) (S : FnScope N ps (defScope st)) (hn : N.length = n)
    (hb : ∀ (cdv : Value) (A : Around) (outer : List Env) (s : Shared) (H : Hp) (E : XK), Room k (A.deeper (envOfC qual (defScope st) s.heap.objs.size f cdv)) → (A.deeper (envOfC qual (defScope st) s.heap.objs.size f cdv)).units + 150 < cLine →
      Takes (cxOf (L2.CX P w) P w K mg base N qual (defScope st) f cdv A outer s H E) (fun cls d _ H => E cls d H) →
      PassesOwn (model P w) (A.deeper (envOfC qual (defScope st) s.heap.objs.size f cdv)) (envOfC qual (defScope st) s.heap.objs.size f cdv) (cxOf (L2.CX P w) P w K mg base N qual (defScope st) f cdv A outer s H E).xe →
      Pess (cxOf (L2.CX P w) P w K mg base N qual (defScope st) f cdv A outer s H E) ea0 (fun cls d _ H => E cls d H) (defBody st) body) : FnM P w K mg base (k + 1) f fd ps (fnM n body) :=
  defM F S hn fun cdv A outer s H E hr => hb cdv A outer s H E hr (by have := hr.un; omega) (takes_of rfl rfl rfl rfl) (passes_of rfl)
theorem defW2 (F : Fun K x qual st f fd) (S : FnScope N ps (defScope st)) (hn : N.length = n)
    (hb : ∀ (cdv : Value) (A : Around) (outer : List Env) (s : Shared) (H : Hp) (E : XK), L2H.RoomH k (A.deeper (envOfC qual (defScope st) s.heap.objs.size f cdv)) → (A.deeper (envOfC qual (defScope st) s.heap.objs.size f cdv)).units + 150 < cLine →
      Takes { cxOf (L2.CX P w) P w K mg base N qual (defScope st) f cdv A outer s H E with calm := false } (fun cls d _ H => E cls d H) →
      PassesOwn (model P w) (A.deeper (envOfC qual (defScope st) s.heap.objs.size f cdv)) (envOfC qual (defScope st) s.heap.objs.size f cdv) (cxOf (L2.CX P w) P w K mg base N qual (defScope st) f cdv A outer s H E).xe →
      Pess { cxOf (L2.CX P w) P w K mg base N qual (defScope st) f cdv A outer s H E with calm := false } ea0 (fun cls d _ H => E cls d H) (defBody st) body) : FnW P w K mg base (k + 1) f fd ps (fnM n body) :=
  defW F S hn fun cdv A outer s H E hr => hb cdv A outer s H E hr (by have := hr.un; omega) (takes_of rfl rfl rfl rfl) (passes_of rfl)
end
section
variable {X : Cx} {ea : EA} {Wx : WX} {e o : Expr} {es : List Expr} {mo : Mo RV} {ms : Mo (List RV)} {m : Fn} {k n : Nat} {f C : Addr} {fd : FuncData} {ps : List Str} {x nm mn : Str} {p pos apos : Pos} {ds : List Value} {dw : List W} {dvs : List V}
theorem pee_callN (hp : ps.length = n) (F : FnM X.prog X.w X.K X.mg X.base k f fd ps m) (hr : Room k X.A) (hm : X.mg x = some (.ref f)) (hk : PySem.W.keepIn X.K (.ref f) = true) (hb : Binds X.K fd ps []) (tk : Takes X Wx) (ha : Pea X ea Wx (e :: es) ms)
    (hg : Gl X x := by rfl) (hdb : (x == ("__debug__" : Str)) = false := by decide) (he : starEach (e :: es) X.env = (false, eval e X.env) :: starEach es X.env := by rfl) (hpl : (backTo pos (starEach es X.env)).any (·.1) = false := by rfl) :
    Pee X ea Wx (.Call (.Name x p) (e :: es) [] pos) (mCall n m ms) := by subst hp; exact pee_call F hr hm hk hb tk ha hg hdb he hpl
theorem pee_makeN (hp : ps.length = n) (hC : X.mg x = some (.ref C)) (M : Mk X.K C f) (F : FnM X.prog X.w X.K X.mg X.base k f fd ps m) (hr : Room (k + 1) X.A) (hb : Binds X.K fd ps ds) (hd : Vals dvs ds) (hw : Dfl X.K X.mg dw dvs) (tk : Takes X Wx) (ha : Pea X ea Wx (e :: es) ms) (hg : Gl X x := by rfl)
    (hdb : (x == ("__debug__" : Str)) = false := by decide) (he : starEach (e :: es) X.env = (false, eval e X.env) :: starEach es X.env := by rfl) (hpl : (backTo pos (starEach es X.env)).any (·.1) = false := by rfl) :
    Pee X ea Wx (.Call (.Name x p) (e :: es) [] pos) (mMake x n m dw ms) := by subst hp; exact pee_make hC M F hr hb hd hw tk ha hg hdb he hpl
end
end Z
set_option Elab.async false
set_option linter.all false
set_option maxRecDepth 100000
namespace Z
open PySem PySem.Spec PyProof.Rows L2
def spLaw (K : PySem.W.Frag) : Sp := fun vs H Q _ => ∃ (a : Addr) (ns : List Int), vs = [.ref a] ∧ SqL K H a (ns.map V.int) ∧ ns.length ≤ 63 ∧ (∀ z ∈ ns, Builtin.Int.intBits z ≤ 1048576) ∧ ∀ H', Q (.bl true) H'
def Says (m : Fn) : Prop := ∀ ns : List Int, ns.length ≤ 63 → (∀ z ∈ ns, Builtin.Int.intBits z ≤ 1048576) → ∃ G', m [.frl (ns.map W.int)] [] = some (.ok (.val (.bl true)), G')
theorem law_end {P : Program} {w : World} {K : PySem.W.Frag} {mg : Str → Option Value} {base : Heap} {k : Nat} {f : Addr} {fd : FuncData} {m : Fn} {x : Str} (F : FnM P w K mg base k f fd [x] m) (h : Says m) : FnOk P w K mg base (L2.CX P w) k f fd [x] (spLaw K) := by
  refine F.ok.imp fun vs H Q E hh => ?_
  obtain ⟨a, ns, rfl, hS, hl, hb, hq⟩ := hh
  obtain ⟨G', e⟩ := h ns hl hb
  refine ⟨rfl, [], fun _ => False, [], _, _, G', ?_, Rws.one ?_, e, fun f hf v H' io' p => ?_, fun x hx => by cases hx⟩
  · exact ⟨rfl, fun n a c h1 => by simp at h1, List.nodup_nil, fun a ha => by simp at ha, fun a z => z.elim⟩
  · refine .frl (vs := ns.map V.int) ?_ (by simp) fun i w v h1 h2 => ?_
    · rcases hS with hS | hS
      · exact .inl ⟨hS, fun z => by rcases z with z | z; · simp at z
                                    · exact z⟩
      · exact .inr hS
    · rw [List.getElem?_map] at h1 h2
      cases e1 : ns[i]? with
      | none => rw [e1] at h1; cases h1
      | some z => rw [e1] at h1 h2; cases h1; cases h2; exact .int z
  · cases hf
    obtain ⟨_, _, r⟩ := p
    cases r
    exact hq H'
end Z
set_option Elab.async false
set_option linter.all false
set_option maxRecDepth 100000
namespace Z
open PySem PySem.Spec PyProof.Rows L2
section
variable {α β : Type} {r : List SV} {G : List Cell} {m ma mb mc mo mv mi me : Mo RV} {ms : Mo (List RV)} {i n : Nat} {w : W} {s : S}
@[simp] theorem bnd_e {m : Mo α} {f : α → Mo β} : bnd m f ⟨r, G⟩ = match m ⟨r, G⟩ with
  | none => none
  | some (.error x, s') => some (.error x, s')
  | some (.ok a, s') => f a s' := rfl
@[simp] theorem ret_e {a : α} : ret a ⟨r, G⟩ = some (.ok a, ⟨r, G⟩) := rfl
@[simp] theorem stk_e : (stk : Mo α) ⟨r, G⟩ = none := rfl
@[simp] theorem raiseM_e {x : Ex} : (raiseM x : Mo α) ⟨r, G⟩ = some (.error x, ⟨r, G⟩) := rfl
@[simp] theorem mName_e : mName i ⟨r, G⟩ = match r[i]? with
  | some (.val w) => some (.ok (.val w), ⟨r, G⟩)
  | some (.own _) => some (.ok (.hnd i), ⟨r, G⟩)
  | _ => none := rfl
@[simp] theorem mC_e : mC w ⟨r, G⟩ = some (.ok (.val w), ⟨r, G⟩) := rfl
@[simp] theorem settle_val : settle (.val w) = .val w := rfl
@[simp] theorem settle_hnd : settle (.hnd i) = .hnd i := rfl
@[simp] theorem settle_own {c : Cell} : settle (.own c) = .val c.toW := rfl
@[simp] theorem look_int {k : Int} : look (.val (.int k)) ⟨r, G⟩ = some (.ok (.int k), ⟨r, G⟩) := rfl
@[simp] theorem look_bl {k : Bool} : look (.val (.bl k)) ⟨r, G⟩ = some (.ok (.bl k), ⟨r, G⟩) := rfl
@[simp] theorem look_non : look (.val .non) ⟨r, G⟩ = some (.ok .non, ⟨r, G⟩) := rfl
@[simp] theorem look_str {k : Str} : look (.val (.str k)) ⟨r, G⟩ = some (.ok (.str k), ⟨r, G⟩) := rfl
@[simp] theorem look_byt {k : Array UInt8} : look (.val (.byt k)) ⟨r, G⟩ = some (.ok (.byt k), ⟨r, G⟩) := rfl
@[simp] theorem look_tup {k : List W} : look (.val (.tup k)) ⟨r, G⟩ = some (.ok (.tup k), ⟨r, G⟩) := rfl
@[simp] theorem look_lst {k : List W} : look (.val (.lst k)) ⟨r, G⟩ = some (.ok (.lst k), ⟨r, G⟩) := rfl
@[simp] theorem look_frl {k : List W} : look (.val (.frl k)) ⟨r, G⟩ = some (.ok (.frl k), ⟨r, G⟩) := rfl
@[simp] theorem look_dK {k : List (Key × W)} : look (.val (.dK k)) ⟨r, G⟩ = some (.ok (.dK k), ⟨r, G⟩) := rfl
@[simp] theorem look_dT {k : List (List Key × W)} : look (.val (.dT k)) ⟨r, G⟩ = some (.ok (.dT k), ⟨r, G⟩) := rfl
@[simp] theorem look_obj {nm : Str} {k : List (Str × W)} : look (.val (.obj nm k)) ⟨r, G⟩ = some (.ok (.obj nm k), ⟨r, G⟩) := rfl
@[simp] theorem look_ref {k : Nat} : look (.val (.ref k)) ⟨r, G⟩ = (G[k]?).map fun c => (.ok c.toW, ⟨r, G⟩) := by
  show ((G[k]?).map Cell.toW).map _ = _
  rw [Option.map_map]; rfl
@[simp] theorem look_hnd : look (.hnd i) ⟨r, G⟩ = match r[i]? with
    | some (.own c) => some (.ok c.toW, ⟨r, G⟩)
    | some (.val w) => (derefW ⟨r, G⟩ w).map fun z => (.ok z, ⟨r, G⟩)
    | _ => none := rfl
@[simp] theorem deref_int {k : Int} : derefW s (.int k) = some (.int k) := rfl
@[simp] theorem deref_tup {k : List W} : derefW s (.tup k) = some (.tup k) := rfl
@[simp] theorem deref_lst {k : List W} : derefW s (.lst k) = some (.lst k) := rfl
@[simp] theorem deref_frl {k : List W} : derefW s (.frl k) = some (.frl k) := rfl
@[simp] theorem deref_dK {k : List (Key × W)} : derefW s (.dK k) = some (.dK k) := rfl
@[simp] theorem deref_dT {k : List (List Key × W)} : derefW s (.dT k) = some (.dT k) := rfl
@[simp] theorem deref_obj {nm : Str} {k : List (Str × W)} : derefW s (.obj nm k) = some (.obj nm k) := rfl
@[simp] theorem deref_ref {k : Nat} : derefW ⟨r, G⟩ (.ref k) = (G[k]?).map Cell.toW := rfl
@[simp] theorem freeze_val : freeze (.val w) ⟨r, G⟩ = some (.ok w, ⟨r, G⟩) := rfl
@[simp] theorem freeze_hnd : freeze (.hnd i) ⟨r, G⟩ = match r[i]? with
    | some (.own c) => some (.ok c.toW, ⟨r.set i (.val c.toW), G⟩)
    | some (.val w) => some (.ok w, ⟨r, G⟩)
    | _ => none := rfl
@[simp] theorem liftO_e {z : OR} : liftO (some z) ⟨r, G⟩ = some (.ok z.toRV, ⟨r, G⟩) := rfl
@[simp] theorem liftO_n : liftO none ⟨r, G⟩ = none := rfl
@[simp] theorem opM_e {f : W → W → Option OR} {x y : RV} : opM f x y ⟨r, G⟩ = bnd (look x) (fun wx => bnd (look y) fun wy => liftO (f wx wy)) ⟨r, G⟩ := rfl
@[simp] theorem mBin_e {f : W → W → Option OR} : mBin f ma mb ⟨r, G⟩ = bnd ma (fun x => bnd mb fun y => opM f (settle x) (settle y)) ⟨r, G⟩ := rfl
@[simp] theorem mUn_e {f : W → Option OR} : mUn f ma ⟨r, G⟩ = bnd ma (fun x => bnd (look (settle x)) fun wx => liftO (f wx)) ⟨r, G⟩ := rfl
@[simp] theorem toB_e {b : Bool} : toB (.val (.bl b)) ⟨r, G⟩ = some (.ok b, ⟨r, G⟩) := rfl
@[simp] theorem mB_e : mB m ⟨r, G⟩ = bnd m toB ⟨r, G⟩ := rfl
@[simp] theorem mAnd_e {a b : Mo Bool} : mAnd a b ⟨r, G⟩ = bnd a (fun x => if x = true then b else ret false) ⟨r, G⟩ := rfl
@[simp] theorem mOr_e {a b : Mo Bool} : mOr a b ⟨r, G⟩ = bnd a (fun x => if x = true then ret true else b) ⟨r, G⟩ := rfl
@[simp] theorem mNot_e {a : Mo Bool} : mNot a ⟨r, G⟩ = bnd a (fun x => ret (!x)) ⟨r, G⟩ := rfl
@[simp] theorem mIf_e {c : Mo Bool} {a b : Mo Fl} : mIf c a b ⟨r, G⟩ = bnd c (fun x => if x = true then a else b) ⟨r, G⟩ := rfl
@[simp] theorem mIfE_e {c : Mo Bool} {a b : Mo RV} : mIfE c a b ⟨r, G⟩ = bnd c (fun x => if x = true then a else b) ⟨r, G⟩ := rfl
@[simp] theorem mAndV_e : mAndV ma mb ⟨r, G⟩ = bnd (mB ma) (fun x => if x = true then mb else ret (.val (.bl false))) ⟨r, G⟩ := rfl
@[simp] theorem mNotV_e : mNotV ma ⟨r, G⟩ = bnd (mB ma) (fun x => ret (.val (.bl (!x)))) ⟨r, G⟩ := rfl
@[simp] theorem mSeq_e {a b : Mo Fl} : mSeq a b ⟨r, G⟩ = match a ⟨r, G⟩ with
  | none => none
  | some (.error x, s') => some (.error x, s')
  | some (.ok .nx, s') => b s'
  | some (.ok .bk, s') => some (.ok .bk, s')
  | some (.ok .ct, s') => some (.ok .ct, s')
  | some (.ok (.rt f), s') => some (.ok (.rt f), s') := by
  unfold mSeq bnd
  cases a ⟨r, G⟩ with
  | none => rfl
  | some p =>
    obtain ⟨q, s'⟩ := p
    cases q with
    | error x => rfl
    | ok f => cases f <;> rfl
@[simp] theorem mNext_e : mNext ⟨r, G⟩ = some (.ok .nx, ⟨r, G⟩) := rfl
@[simp] theorem mBreak_e : mBreak ⟨r, G⟩ = some (.ok .bk, ⟨r, G⟩) := rfl
@[simp] theorem land_val : land (.val w) ⟨r, G⟩ = some (.ok (.val w), ⟨r, G⟩) := rfl
@[simp] theorem land_own {c : Cell} : land (.own c) ⟨r, G⟩ = some (.ok (.own c), ⟨r, G⟩) := rfl
@[simp] theorem land_hnd : land (.hnd i) ⟨r, G⟩ = bnd (freeze (.hnd i)) (fun w => ret (.val w)) ⟨r, G⟩ := rfl
@[simp] theorem setM_e {x : SV} : setM i x ⟨r, G⟩ = some (.ok .nx, ⟨r.set i x, G⟩) := rfl
@[simp] theorem mAsg_e : mAsg i m ⟨r, G⟩ = bnd m (fun x => bnd (land x) fun y => setM i y) ⟨r, G⟩ := rfl
@[simp] theorem mDrop_e : mDrop m ⟨r, G⟩ = bnd m (fun _ => ret .nx) ⟨r, G⟩ := rfl
@[simp] theorem retM_val : retM (.val w) ⟨r, G⟩ = some (.ok (.rt (.val w)), ⟨r, G⟩) := rfl
@[simp] theorem retM_own {c : Cell} : retM (.own c) ⟨r, G⟩ = some (.ok (.rt (.own c)), ⟨r, G⟩) := rfl
@[simp] theorem retM_hnd : retM (.hnd i) ⟨r, G⟩ = match r[i]? with
    | some (.own c) => some (.ok (.rt (.own c)), ⟨r, G⟩)
    | some (.val w) => some (.ok (.rt (.val w)), ⟨r, G⟩)
    | _ => none := rfl
@[simp] theorem mRet_e : mRet m ⟨r, G⟩ = bnd m retM ⟨r, G⟩ := rfl
@[simp] theorem mNil_e : mNil ⟨r, G⟩ = some (.ok [], ⟨r, G⟩) := rfl
@[simp] theorem mCons_e : mCons m ms ⟨r, G⟩ = bnd m (fun x => bnd ms fun xs => ret (settle x :: xs)) ⟨r, G⟩ := rfl
@[simp] theorem freezeAll_nil : freezeAll [] ⟨r, G⟩ = some (.ok [], ⟨r, G⟩) := rfl
@[simp] theorem freezeAll_cons {x : RV} {xs : List RV} : freezeAll (x :: xs) ⟨r, G⟩ = bnd (freeze x) (fun w => bnd (freezeAll xs) fun ws => ret (w :: ws)) ⟨r, G⟩ := rfl
@[simp] theorem lookAll_nil : lookAll [] ⟨r, G⟩ = some (.ok [], ⟨r, G⟩) := rfl
@[simp] theorem lookAll_cons {x : RV} {xs : List RV} : lookAll (x :: xs) ⟨r, G⟩ = bnd (look x) (fun w => bnd (lookAll xs) fun ws => ret (w :: ws)) ⟨r, G⟩ := rfl
@[simp] theorem mTup_e : mTup ms ⟨r, G⟩ = bnd ms (fun xs => bnd (freezeAll xs) fun ws => if ws.length ≤ sz then ret (.val (.tup ws)) else stk) ⟨r, G⟩ := rfl
@[simp] theorem mLst_e : mLst ms ⟨r, G⟩ = bnd ms (fun xs => bnd (freezeAll xs) fun ws => if ws.length ≤ sz then ret (.own (.lst ws)) else stk) ⟨r, G⟩ := rfl
@[simp] theorem mCB_e {f : List W → Option OR} : mCB f ms ⟨r, G⟩ = bnd ms (fun xs => bnd (lookAll xs) fun ws => liftO (f ws)) ⟨r, G⟩ := rfl
@[simp] theorem mAsgT_e {t : W → Mo Unit} : mAsgT t m ⟨r, G⟩ = bnd m (fun x => bnd (freeze (settle x)) fun w => bnd (t w) fun _ => ret .nx) ⟨r, G⟩ := rfl
@[simp] theorem tgN_e : tgN i w ⟨r, G⟩ = some (.ok (), ⟨r.set i (.val w), G⟩) := rfl
@[simp] theorem tgT_e {u : List W → Mo Unit} {ws : List W} : tgT n u (.tup ws) ⟨r, G⟩ = if ws.length = n then u ws ⟨r, G⟩ else none := by
  show (if ws.length = n then u ws else stk) ⟨r, G⟩ = _
  split <;> rfl
@[simp] theorem tgsNil_e : tgsNil [] ⟨r, G⟩ = some (.ok (), ⟨r, G⟩) := rfl
@[simp] theorem tgsCons_e {t : W → Mo Unit} {u : List W → Mo Unit} {ws : List W} : tgsCons t u (w :: ws) ⟨r, G⟩ = bnd (t w) (fun _ => u ws) ⟨r, G⟩ := rfl
@[simp] theorem mFor_e {mi : Mo Wk} {t : W → Mo Unit} {mb : Mo Fl} : mFor mi t mb ⟨r, G⟩ = bnd mi (fun k => forL k k.ws fun w => bnd (t w) fun _ => mb) ⟨r, G⟩ := rfl
@[simp] theorem mIter_e : mIter m ⟨r, G⟩ = bnd m (fun x => bnd (freeze (settle x)) fun w s => (walkOf s w).map fun k => (.ok k, s)) ⟨r, G⟩ := rfl
@[simp] theorem walk_lst {ws : List W} : walkOf s (.lst ws) = some ⟨ws, none⟩ := rfl
@[simp] theorem walk_frl {ws : List W} : walkOf s (.frl ws) = some ⟨ws, none⟩ := rfl
@[simp] theorem walk_tup {ws : List W} : walkOf s (.tup ws) = some ⟨ws, none⟩ := rfl
@[simp] theorem walk_ref : walkOf ⟨r, G⟩ (.ref n) = match G[n]? with
    | some (.lst ws) => some ⟨ws, some n⟩
    | _ => none := rfl
theorem lk_nat {n : Nat} (h : n ≤ 1000000) : Lk (n : Int) := by unfold Lk; omega
@[simp] theorem rk_small {j : Int} (h : -1000000 ≤ j ∧ j ≤ 1000000) : Rk j := by unfold Rk; omega
theorem rk_nat {n : Nat} (h : n ≤ 1000000) : Rk (n : Int) := by unfold Rk; omega
@[simp] theorem mRng1_e : mRng1 ms ⟨r, G⟩ = bnd ms (fun xs => bnd (lookAll xs) fun ws => match ws with
  | [.int j] => if Rk j then ret ⟨rngW 0 j.toNat, none⟩ else stk
  | _ => stk) ⟨r, G⟩ := rfl
@[simp] theorem mRng2_e : mRng2 ms ⟨r, G⟩ = bnd ms (fun xs => bnd (lookAll xs) fun ws => match ws with
  | [.int i, .int j] => if Rk i ∧ Rk j then ret ⟨rngW i (j - i).toNat, none⟩ else stk
  | _ => stk) ⟨r, G⟩ := rfl
@[simp] theorem mLc_e {vs : List Nat} {mi : Mo Wk} {t : W → Mo Unit} {tt : Mo Bool} : mLc vs mi t tt me ⟨r, G⟩ = bnd mi (fun k s => lcL vs t tt me k k.ws [] (wipeS vs s)) ⟨r, G⟩ := rfl
@[simp] theorem mYes_e : mYes ⟨r, G⟩ = some (.ok true, ⟨r, G⟩) := rfl
@[simp] theorem wipeS_e {vs : List Nat} : wipeS vs ⟨r, G⟩ = ⟨wipeR r vs, G⟩ := rfl
@[simp] theorem wipeR_nil : wipeR r [] = r := rfl
@[simp] theorem wipeR_cons {vs : List Nat} : wipeR r (n :: vs) = (wipeR r vs).set n .non := rfl
@[simp] theorem mChain_e {f g : W → W → Option OR} : mChain f g ma mb mc ⟨r, G⟩ = bnd ma (fun x => bnd mb fun y => bnd (mB (opM f (settle x) (settle y))) fun k => if k = true then bnd mc fun z => opM g (settle y) (settle z) else ret (.val (.bl false))) ⟨r, G⟩ := rfl
@[simp] theorem mSl_e {ml mh : Mo (Option Int)} : mSl mo ml mh ⟨r, G⟩ = bnd mo (fun x => bnd ml fun l => bnd mh fun h => bnd (look (settle x)) fun wx => liftO (fSl wx l h)) ⟨r, G⟩ := rfl
@[simp] theorem mNoPart_e : mNoPart ⟨r, G⟩ = some (.ok none, ⟨r, G⟩) := rfl
@[simp] theorem toI_e {k : Int} : toI (.val (.int k)) ⟨r, G⟩ = some (.ok (some k), ⟨r, G⟩) := rfl
@[simp] theorem mPart_e : mPart m ⟨r, G⟩ = bnd m toI ⟨r, G⟩ := rfl
@[simp] theorem mAug_e {f : W → W → Option OR} : mAug i f me ⟨r, G⟩ = mAsg i (bnd (mName i) fun x => bnd me fun y => opM f x (settle y)) ⟨r, G⟩ := rfl
@[simp] theorem mMut_e {k : CK} {f : Cell → List W → Option (W × Cell)} : mMut k f mo ms ⟨r, G⟩ = bnd mo (fun x s => if ((cellAt s (settle x)).map k.fits) = some true then (bnd ms fun xs => bnd (freezeAll xs) fun ws s2 => match cellAt s2 (settle x) with
  | some c => (match f c ws with
    | some (w, c') => some (.ok (.val w), putAt s2 c' (settle x))
    | none => none)
  | none => none) s else none) ⟨r, G⟩ := rfl
@[simp] theorem cellAt_hnd : cellAt ⟨r, G⟩ (.hnd i) = match r[i]? with
    | some (.own c) => some c
    | some (.val (.ref n)) => G[n]?
    | _ => none := rfl
@[simp] theorem cellAt_ref : cellAt ⟨r, G⟩ (.val (.ref n)) = G[n]? := rfl
@[simp] theorem putAt_hnd {c : Cell} : putAt ⟨r, G⟩ c (.hnd i) = match r[i]? with
    | some (.own _) => ⟨r.set i (.own c), G⟩
    | some (.val (.ref n)) => ⟨r, G.set n c⟩
    | _ => ⟨r, G⟩ := by
  unfold putAt
  rfl
@[simp] theorem putAt_ref {c : Cell} : putAt ⟨r, G⟩ c (.val (.ref n)) = ⟨r, G.set n c⟩ := rfl
@[simp] theorem fits_l {ws : List W} : CK.fits .lst (.lst ws) = true := rfl
@[simp] theorem mCall_e {m : Fn} : mCall n m ms ⟨r, G⟩ = bnd ms (fun xs => bnd (freezeAll xs) fun ws => if ws.length = n then callG m ws else stk) ⟨r, G⟩ := rfl
@[simp] theorem callG_e {m : Fn} {ws : List W} : callG m ws ⟨r, G⟩ = match m ws G with
  | some (.ok f, G') => some (.ok (rvOf f), ⟨r, G'⟩)
  | some (.error x, G') => some (.error x, ⟨r, G'⟩)
  | none => none := rfl
@[simp] theorem rvOf_val : rvOf (.val w) = .val w := rfl
@[simp] theorem rvOf_own {c : Cell} : rvOf (.own c) = .own c := rfl
@[simp] theorem quiet_e : quiet m ⟨r, G⟩ = match m ⟨r, G⟩ with
  | some (.ok x, s') => some (.ok x, s')
  | _ => none := rfl
@[simp] theorem chk_e {nm mn : Str} : chk nm mn w ⟨r, G⟩ = match derefW ⟨r, G⟩ w with
  | some (.obj nm' fs) => if nm' = nm ∧ fs.lookup mn = none then some (.ok (), ⟨r, G⟩) else none
  | _ => none := rfl
@[simp] theorem mMake_e {nm : Str} {m : Fn} {ds : List W} : mMake nm n m ds ms ⟨r, G⟩ = bnd ms (fun xs => bnd (freezeAll xs) fun ws => if (ws ++ ds).length + 1 = n then makeG nm m (ws ++ ds) else stk) ⟨r, G⟩ := rfl
@[simp] theorem mSetF_e {nms : List Str} {f : Str} : mSetF nms f mo mv ⟨r, G⟩ = bnd mv (fun y => bnd (freeze (settle y)) fun wy => bnd mo fun x => putFld nms f wy x) ⟨r, G⟩ := rfl
@[simp] theorem putFld_e {nms : List Str} {f : Str} : putFld nms f w (.val (.ref n)) ⟨r, G⟩ = match G[n]? with
    | some (.ins nm fs) => if nm ∈ nms ∧ fs.length < 1000 then some (.ok .nx, ⟨r, G.set n (.ins nm (putFW f w fs))⟩) else none
    | _ => none := rfl
@[simp] theorem mRaise_e {nm : Str} {fs : List Str} : mRaise nm fs ms ⟨r, G⟩ = bnd ms (fun xs => bnd (freezeAll xs) fun ws => if ws.length = fs.length ∧ ws.length ≤ 1000 then raiseM ⟨nm, (fs.zip ws).reverse⟩ else stk) ⟨r, G⟩ := rfl
@[simp] theorem mRaise0_e {nm : Str} : mRaise0 nm ⟨r, G⟩ = some (.error ⟨nm, []⟩, ⟨r, G⟩) := rfl
@[simp] theorem mIs_e {tab : List (CT × Bool)} : mIs tab m ⟨r, G⟩ = bnd m (fun x => bnd (look (settle x)) fun w => liftO ((tyOfW w).bind fun c => (tabAt tab c).map fun b => .imm (.bl b))) ⟨r, G⟩ := rfl
@[simp] theorem chk1_e {nm : Str} {x : W} {xs : List W} : chk1 nm (x :: xs) ⟨r, G⟩ = match derefW ⟨r, G⟩ x with
    | some (.obj nm' _) => if nm' = nm then some (.ok (), ⟨r, G⟩) else none
    | _ => none := rfl
@[simp] theorem mLenO_e {nm : Str} {m : Fn} : mLenO nm m ms ⟨r, G⟩ = bnd ms (fun xs => bnd (freezeAll xs) fun ws => if ws.length = 1 then bnd (chk1 nm ws) fun _ => bnd (callG m ws) toLen else stk) ⟨r, G⟩ := rfl
@[simp] theorem toLen_e {k : Int} : toLen (.val (.int k)) ⟨r, G⟩ = if Lk k then some (.ok (.val (.int k)), ⟨r, G⟩) else none := by
  show (if Lk k then ret (.val (.int k)) else stk : Mo RV) ⟨r, G⟩ = _
  split <;> rfl
@[simp] theorem mListO_e {nm fl : Str} {m : Fn} : mListO nm fl m ms ⟨r, G⟩ = bnd ms (fun xs => bnd (freezeAll xs) fun ws => listO nm fl rdL m ws) ⟨r, G⟩ := rfl
@[simp] theorem mListS_e {nm fl : Str} {rd : W → Option (List W)} {m : Fn} : mListS nm fl rd m ms ⟨r, G⟩ = bnd ms (fun xs => bnd (freezeAll xs) fun ws => listO nm fl rd m ws) ⟨r, G⟩ := rfl
@[simp] theorem listO_e {nm fl : Str} {rd : W → Option (List W)} {m : Fn} : listO nm fl rd m [w] ⟨r, G⟩ = match (derefW ⟨r, G⟩ w).bind (fldS nm fl rd) with
    | some zs => (match callG m [w] ⟨r, G⟩ with
      | some (.ok (.val (.int n)), s') => if 0 ≤ n ∧ n ≤ sz then some (.ok (.own (.lst zs)), s') else none
      | _ => none)
    | none => none := rfl
end
section
variable {a b : Int}
@[simp] theorem fAdd_i : fAdd (.int a) (.int b) = some (.imm (.int (a + b))) := rfl
@[simp] theorem fSub_i : fSub (.int a) (.int b) = some (.imm (.int (a - b))) := rfl
@[simp] theorem fMul_i : fMul (.int a) (.int b) = if CMul a b then some (.imm (.int (a * b))) else none := by
  unfold fMul orf fIC fRepL
  split <;> rename_i h <;> split at h <;> simp_all
@[simp] theorem fDiv_i : fDiv (.int a) (.int b) = if CDivW a b then some (.imm (.int (a / b))) else none := rfl
@[simp] theorem fMod_i : fMod (.int a) (.int b) = if 0 < b then some (.imm (.int (a % b))) else none := rfl
@[simp] theorem fPow_i : fPow (.int a) (.int b) = if CPow a b then some (.imm (.int (a ^ b.toNat))) else none := rfl
@[simp] theorem fShl_i : fShl (.int a) (.int b) = if CPow a b then some (.imm (.int (a * 2 ^ b.toNat))) else none := rfl
@[simp] theorem fShr_i : fShr (.int a) (.int b) = if 0 ≤ b then some (.imm (.int (a / 2 ^ b.toNat))) else none := rfl
@[simp] theorem fNeg_i : fNeg (.int a) = some (.imm (.int (-a))) := rfl
@[simp] theorem fLt_i : fLt (.int a) (.int b) = some (.imm (.bl (decide (a < b)))) := rfl
@[simp] theorem fLe_i : fLe (.int a) (.int b) = some (.imm (.bl (decide (a ≤ b)))) := rfl
@[simp] theorem fGt_i : fGt (.int a) (.int b) = some (.imm (.bl (decide (b < a)))) := rfl
@[simp] theorem fInt1_i : fInt1 [.int a] = some (.imm (.int a)) := rfl
@[simp] theorem fLen_l {ws : List W} : fLen [.lst ws] = some (.imm (.int ws.length)) := rfl
@[simp] theorem fLen_f {ws : List W} : fLen [.frl ws] = some (.imm (.int ws.length)) := rfl
@[simp] theorem fLen_t {ws : List W} : fLen [.tup ws] = some (.imm (.int ws.length)) := rfl
@[simp] theorem fIx_l {ws : List W} : fIx (.lst ws) (.int a) = (atI ws a).map .imm := by
  unfold fIx orf fIxS
  cases h : atI ws a <;> simp [h, fIxD, dLook]
@[simp] theorem fIx_f {ws : List W} : fIx (.frl ws) (.int a) = (atI ws a).map .imm := by
  unfold fIx orf fIxS
  cases h : atI ws a <;> simp [h, fIxD, dLook]
@[simp] theorem fIx_t {ws : List W} : fIx (.tup ws) (.int a) = (atI ws a).map .imm := by
  unfold fIx orf fIxS
  cases h : atI ws a <;> simp [h, fIxD, dLook]
theorem atI_mapI {xs : List Int} {k : Nat} (h : k < xs.length) : atI (xs.map W.int) (k : Int) = some (.int (xs[k]'h)) := atI_nat (by simp [h])
end
theorem fnM_e {n : Nat} {body : Mo Fl} {ws : List W} {G : List Cell} : fnM n body ws G = match body ⟨ws.map SV.val ++ List.replicate (n - ws.length) SV.non, G⟩ with
  | some (.ok (.rt f), s) => some (.ok f, s.G)
  | some (.ok .nx, s) => some (.ok (.val .non), s.G)
  | some (.error x, s) => some (.error x, s.G)
  | _ => none := rfl
end Z
set_option Elab.async false
set_option linter.all false
set_option maxRecDepth 100000
namespace Z
open PySem PySem.Spec PyProof.Rows L2
section
variable {ws ws0 : List W} {k : Wk} {b : W → Mo Fl} {s : S} {F : Option (Except Ex Fl × S)}
@[simp] theorem ok_none : Wk.ok ⟨ws, none⟩ s ↔ True := Iff.rfl
@[simp] theorem ok_some {n : Nat} {r : List SV} {G : List Cell} : Wk.ok ⟨ws, some n⟩ ⟨r, G⟩ ↔ G[n]? = some (.lst ws) := Iff.rfl
theorem forL_gen {R : Except Ex Fl → S → Prop} (I : Nat → S → Prop) (hok : ∀ i s, I i s → k.ok s) (hend : ∀ s, I ws.length s → R (.ok .nx) s)
    (h : ∀ (i : Nat) (hi : i < ws.length) (s : S), I i s → (∃ s', (b ws[i] s = some (.ok .nx, s') ∨ b ws[i] s = some (.ok .ct, s')) ∧ I (i + 1) s') ∨ (∃ s', b ws[i] s = some (.ok .bk, s') ∧ R (.ok .nx) s') ∨
      (∃ f s', b ws[i] s = some (.ok (.rt f), s') ∧ R (.ok (.rt f)) s') ∨ ∃ x s', b ws[i] s = some (.error x, s') ∧ R (.error x) s') :
    ∀ (n i : Nat) (s : S), n = ws.length - i → i ≤ ws.length → I i s → ∃ r s', forL k (ws.drop i) b s = some (r, s') ∧ R r s' := by
  intro n
  induction n with
  | zero =>
    intro i s hk hi hI
    have e : i = ws.length := by omega
    subst e
    rw [List.drop_length]
    exact ⟨_, _, if_pos (hok _ _ hI), hend s hI⟩
  | succ n ih =>
    intro i s hk hi hI
    have hlt : i < ws.length := by omega
    rw [drop_get hlt]
    unfold forL
    rw [if_pos (hok _ _ hI)]
    rcases h i hlt s hI with ⟨s', e | e, hI'⟩ | ⟨s', e, hR⟩ | ⟨f, s', e, hR⟩ | ⟨x, s', e, hR⟩
    · rw [bnd_at e]
      exact ih (i + 1) s' (by omega) (by omega) hI'
    · rw [bnd_at e]
      exact ih (i + 1) s' (by omega) (by omega) hI'
    · rw [bnd_at e]
      exact ⟨_, _, rfl, hR⟩
    · rw [bnd_at e]
      exact ⟨_, _, rfl, hR⟩
    · unfold bnd; rw [e]
      exact ⟨_, _, rfl, hR⟩
theorem forL_exitK {R : Except Ex Fl → S → Prop} (hF : forL k ws b s = F) (I : Nat → S → Prop) (hok : ∀ i s, I i s → k.ok s) (h0 : I 0 s) (hend : ∀ s, I ws.length s → R (.ok .nx) s)
    (h : ∀ (i : Nat) (hi : i < ws.length) (s : S), I i s → (∃ s', (b ws[i] s = some (.ok .nx, s') ∨ b ws[i] s = some (.ok .ct, s')) ∧ I (i + 1) s') ∨ (∃ s', b ws[i] s = some (.ok .bk, s') ∧ R (.ok .nx) s') ∨
      (∃ f s', b ws[i] s = some (.ok (.rt f), s') ∧ R (.ok (.rt f)) s') ∨ ∃ x s', b ws[i] s = some (.error x, s') ∧ R (.error x) s') : ∃ r s', F = some (r, s') ∧ R r s' := by
  have := forL_gen (k := k) I hok hend h ws.length 0 s (by simp) (Nat.zero_le _) h0
  rw [List.drop_zero, hF] at this
  exact this
theorem forL_exitAt {R : Except Ex Fl → S → Prop} (hF : forL ⟨ws0, none⟩ ws b s = F) (I : Nat → S → Prop) (h0 : I 0 s) (hend : ∀ s, I ws.length s → R (.ok .nx) s)
    (h : ∀ (i : Nat) (hi : i < ws.length) (s : S), I i s → (∃ s', (b ws[i] s = some (.ok .nx, s') ∨ b ws[i] s = some (.ok .ct, s')) ∧ I (i + 1) s') ∨ (∃ s', b ws[i] s = some (.ok .bk, s') ∧ R (.ok .nx) s') ∨
      (∃ f s', b ws[i] s = some (.ok (.rt f), s') ∧ R (.ok (.rt f)) s') ∨ ∃ x s', b ws[i] s = some (.error x, s') ∧ R (.error x) s') : ∃ r s', F = some (r, s') ∧ R r s' := forL_exitK hF I (fun _ _ _ => trivial) h0 hend h
theorem forL_atK (hF : forL k ws b s = F) (I : Nat → S → Prop) (hok : ∀ i s, I i s → k.ok s) (h0 : I 0 s) (h : ∀ (i : Nat) (hi : i < ws.length) (s : S), I i s → ∃ s', b ws[i] s = some (.ok .nx, s') ∧ I (i + 1) s') : ∃ s', F = some (.ok .nx, s') ∧ I ws.length s' := by
  obtain ⟨r, s', e, hr, hI⟩ := forL_exitK hF (R := fun r s' => r = .ok .nx ∧ I ws.length s') I hok h0 (fun s hI => ⟨rfl, hI⟩) (fun i hi s hI => .inl (let ⟨s', e, h'⟩ := h i hi s hI; ⟨s', .inl e, h'⟩))
  subst hr
  exact ⟨s', e, hI⟩
theorem forL_at (hF : forL ⟨ws0, none⟩ ws b s = F) (I : Nat → S → Prop) (h0 : I 0 s) (h : ∀ (i : Nat) (hi : i < ws.length) (s : S), I i s → ∃ s', b ws[i] s = some (.ok .nx, s') ∧ I (i + 1) s') : ∃ s', F = some (.ok .nx, s') ∧ I ws.length s' := forL_atK hF I (fun _ _ _ => trivial) h0 h
variable {γ : Type} {e : γ → W} {xs : List γ} {vs : List Nat} {t : W → Mo Unit} {tt : Mo Bool} {me : Mo RV}
theorem lc_pure (hk : k.ok s) (p : γ → Bool) (f : γ → W) : ∀ (xs : List γ) (acc : List W), (∀ x ∈ xs, ∃ s1, (bnd (t (e x)) fun _ => tt) s = some (.ok (p x), s1) ∧ (p x = true → ∃ s2, (bnd me fun y => freeze (settle y)) s1 = some (.ok (f x), s2) ∧ wipeS vs s2 = s) ∧ (p x = false → wipeS vs s1 = s)) →
    acc.length + xs.length ≤ sz → lcL vs t tt me k (xs.map e) acc s = some (.ok (.own (.lst (acc ++ (xs.filter p).map f))), s)
  | [], acc, _, _ => by
    simp only [List.map_nil, List.filter_nil, List.append_nil]
    unfold lcL
    exact if_pos hk
  | x :: xs, acc, h, hl => by
    obtain ⟨s1, e1, h1, h2⟩ := h x List.mem_cons_self
    have hr := fun y hy => h y (List.mem_cons_of_mem x hy)
    simp only [List.map_cons]
    unfold lcL
    rw [if_pos hk, e1]
    cases q : p x with
    | true =>
      obtain ⟨s2, e2, e3⟩ := h1 q
      simp only [e2]
      rw [if_pos (by simp at hl; omega), e3, lc_pure hk p f xs _ hr (by simp at hl ⊢; omega)]
      simp [List.filter_cons, q]
    | false =>
      simp only []
      rw [h2 q, lc_pure hk p f xs _ hr (by simp at hl ⊢; omega)]
      simp [List.filter_cons, q]
theorem lc_all (hk : k.ok s) (f : γ → W) (xs : List γ) (acc : List W) (h : ∀ x ∈ xs, ∃ s1, (bnd (t (e x)) fun _ => tt) s = some (.ok true, s1) ∧ ∃ s2, (bnd me fun y => freeze (settle y)) s1 = some (.ok (f x), s2) ∧ wipeS vs s2 = s) (hl : acc.length + xs.length ≤ sz) :
    lcL vs t tt me k (xs.map e) acc s = some (.ok (.own (.lst (acc ++ xs.map f))), s) := by
  have := lc_pure hk (vs := vs) (t := t) (tt := tt) (me := me) (e := e) (s := s) (fun _ => true) f xs acc (fun x hx => by
    obtain ⟨s1, e1, s2, e2, e3⟩ := h x hx
    exact ⟨s1, e1, fun _ => ⟨s2, e2, e3⟩, fun q => by cases q⟩) hl
  rwa [List.filter_eq_self.mpr fun _ _ => rfl] at this
theorem lc_inv (I : Nat → List W → S → Prop) (hok : ∀ i acc s, I i acc s → k.ok s) : ∀ (n i : Nat) (acc : List W) (s : S), n = ws.length - i → i ≤ ws.length → I i acc s → acc.length ≤ i → ws.length ≤ sz →
    (∀ (i : Nat) (hi : i < ws.length) (acc : List W) (s : S), I i acc s → ∃ b s1, (bnd (t ws[i]) fun _ => tt) s = some (.ok b, s1) ∧ (b = true → ∃ y s2, (bnd me fun y => freeze (settle y)) s1 = some (.ok y, s2) ∧ I (i + 1) (acc ++ [y]) (wipeS vs s2)) ∧ (b = false → I (i + 1) acc (wipeS vs s1))) →
    ∃ acc' s', lcL vs t tt me k (ws.drop i) acc s = some (.ok (.own (.lst acc')), s') ∧ I ws.length acc' s' ∧ acc'.length ≤ ws.length := by
  intro n
  induction n with
  | zero =>
    intro i acc s hn hi hI hl hz h
    have e : i = ws.length := by omega
    subst e
    rw [List.drop_length]
    unfold lcL
    exact ⟨acc, s, if_pos (hok _ _ _ hI), hI, hl⟩
  | succ n ih =>
    intro i acc s hn hi hI hl hz h
    have hlt : i < ws.length := by omega
    rw [drop_get hlt]
    unfold lcL
    rw [if_pos (hok _ _ _ hI)]
    obtain ⟨b, s1, e1, h1, h2⟩ := h i hlt acc s hI
    rw [e1]
    cases b with
    | true =>
      obtain ⟨y, s2, e2, h3⟩ := h1 rfl
      simp only [e2]
      rw [if_pos (by omega)]
      exact ih (i + 1) _ _ (by omega) (by omega) h3 (by simp; omega) hz h
    | false => exact ih (i + 1) _ _ (by omega) (by omega) (h2 rfl) (by omega) hz h
theorem lc_at {F : Option (Except Ex RV × S)} (hF : lcL vs t tt me k ws [] s = F) (I : Nat → List W → S → Prop) (hok : ∀ i acc s, I i acc s → k.ok s) (h0 : I 0 [] s) (hz : ws.length ≤ sz)
    (h : ∀ (i : Nat) (hi : i < ws.length) (acc : List W) (s : S), I i acc s → ∃ b s1, (bnd (t ws[i]) fun _ => tt) s = some (.ok b, s1) ∧ (b = true → ∃ y s2, (bnd me fun y => freeze (settle y)) s1 = some (.ok y, s2) ∧ I (i + 1) (acc ++ [y]) (wipeS vs s2)) ∧ (b = false → I (i + 1) acc (wipeS vs s1))) :
    ∃ acc' s', F = some (.ok (.own (.lst acc')), s') ∧ I ws.length acc' s' ∧ acc'.length ≤ ws.length := by
  have := lc_inv (k := k) I hok ws.length 0 [] s (by simp) (Nat.zero_le _) h0 (Nat.zero_le _) hz h
  rw [List.drop_zero, hF] at this
  exact this
theorem rng_map {lo : Int} {n : Nat} : rngW lo n = (List.range n).map fun (k : Nat) => W.int (lo + (k : Int)) := rfl
end
theorem toPDs_map {γ : Type} {e : γ → W} {g : γ → PyData} (h : ∀ x, toPD (e x) = some (g x)) : ∀ xs : List γ, toPDs (xs.map e) = some (xs.map g)
  | [] => rfl
  | x :: xs => by simp only [List.map_cons, toPDs, h x, toPDs_map h xs]
theorem eqvAll_map {γ : Type} [DecidableEq γ] {g : γ → PyData} (h : ∀ x y, PyData.eqv (g x) (g y) = decide (x = y)) : ∀ xs ys : List γ, PyData.eqvAll (xs.map g) (ys.map g) = decide (xs = ys)
  | [], [] => rfl
  | [], _ :: _ => rfl
  | _ :: _, [] => rfl
  | x :: xs, y :: ys => by
    simp only [List.map_cons, PyData.eqvAll, h, eqvAll_map h xs ys]
    by_cases h1 : x = y <;> by_cases h2 : xs = ys <;> simp [h1, h2]
theorem canAll_map {γ : Type} {g : γ → PyData} (h : ∀ x, (g x).canLay0 = true) : ∀ xs : List γ, PyData.canLayAll0 (xs.map g) = true
  | [] => rfl
  | x :: xs => by simp only [List.map_cons, PyData.canLayAll0, h x, canAll_map h xs, Bool.and_true]
structure Emb {γ : Type} [DecidableEq γ] (e : γ → W) (n : Nat) : Prop where
  ex : ∃ g : γ → PyData, (∀ x, toPD (e x) = some (g x)) ∧ (∀ x, (g x).canLay0 = true) ∧ (∀ x, (g x).depth ≤ n) ∧ ∀ x y, PyData.eqv (g x) (g y) = decide (x = y)
theorem depthAll_map {γ : Type} {g : γ → PyData} {n : Nat} (h : ∀ x, (g x).depth ≤ n) : ∀ xs : List γ, PyData.depthAll (xs.map g) ≤ n
  | [] => Nat.zero_le _
  | x :: xs => by simp only [List.map_cons, PyData.depthAll]; exact Nat.max_le.mpr ⟨h x, depthAll_map h xs⟩
section
variable {γ δ : Type} [DecidableEq γ] [DecidableEq δ] {e : γ → W} {e' : δ → W} {n m : Nat}
theorem emb_int : Emb W.int 0 := ⟨PyData.int, fun _ => rfl, fun _ => rfl, fun _ => Nat.le_refl _, fun x y => by
  show (x == y) = _
  by_cases h : x = y <;> simp [h]⟩
theorem emb_lst (h : Emb e n) : Emb (fun xs : List γ => W.lst (xs.map e)) (n + 1) := by
  obtain ⟨g, h1, h2, h3, h4⟩ := h.ex
  refine ⟨fun xs => .list (xs.map g), fun xs => ?_, fun xs => ?_, fun xs => ?_, fun xs ys => ?_⟩
  · simp only [toPD, toPDs_map h1, Option.map_some]
  · simp only [PyData.canLay0]; exact canAll_map h2 xs
  · simp only [PyData.depth]; exact Nat.succ_le_succ (depthAll_map h3 xs)
  · simp only [PyData.eqv]; exact eqvAll_map h4 xs ys
theorem emb_tup (h : Emb e n) : Emb (fun xs : List γ => W.tup (xs.map e)) (n + 1) := by
  obtain ⟨g, h1, h2, h3, h4⟩ := h.ex
  refine ⟨fun xs => .tuple (xs.map g), fun xs => ?_, fun xs => ?_, fun xs => ?_, fun xs ys => ?_⟩
  · simp only [toPD, toPDs_map h1, Option.map_some]
  · simp only [PyData.canLay0]; exact canAll_map h2 xs
  · simp only [PyData.depth]; exact Nat.succ_le_succ (depthAll_map h3 xs)
  · simp only [PyData.eqv]; exact eqvAll_map h4 xs ys
theorem shaped_of {d : PyData} (h1 : d.canLay0 = true) (h2 : d.depth ≤ 64) : SeqAt.shaped d = true := by
  unfold SeqAt.shaped
  rw [h1, decide_eq_true h2]; rfl
theorem eqP_emb (h : Emb e n) (hn : n ≤ 64) (x y : γ) : eqP (e x) (e y) = some (decide (x = y)) := by
  obtain ⟨g, h1, h2, h3, h4⟩ := h.ex
  unfold eqP
  simp only [h1]
  rw [if_pos ⟨shaped_of (h2 x) (Nat.le_trans (h3 x) hn), shaped_of (h2 y) (Nat.le_trans (h3 y) hn)⟩, h4]
theorem anyP_emb (h : Emb e n) (hn : n < 64) (x : γ) (xs : List γ) : anyP (e x) (xs.map e) = some (decide (x ∈ xs)) := by
  obtain ⟨g, h1, h2, h3, h4⟩ := h.ex
  unfold anyP
  rw [h1, toPDs_map h1]
  simp only []
  rw [if_pos ⟨shaped_of (h2 x) (Nat.le_trans (h3 x) (Nat.le_of_lt hn)), shaped_of (by simp only [PyData.canLay0]; exact canAll_map h2 xs) (by simp only [PyData.depth]; exact Nat.succ_le_of_lt (Nat.lt_of_le_of_lt (depthAll_map h3 xs) hn))⟩]
  congr 1
  rw [List.any_map]
  rw [Bool.eq_iff_iff]
  simp only [List.any_eq_true, Function.comp_apply, h4, decide_eq_true_eq]
  constructor
  · rintro ⟨y, hy, rfl⟩; exact hy
  · intro hx; exact ⟨x, hx, rfl⟩
theorem fEqD_emb (h : Emb e n) (hn : n ≤ 64) (x y : γ) : fEqD (e x) (e y) = some (.imm (.bl (decide (x = y)))) := by unfold fEqD; rw [eqP_emb h hn]; rfl
theorem fNeD_emb (h : Emb e n) (hn : n ≤ 64) (x y : γ) : fNeD (e x) (e y) = some (.imm (.bl (decide (x ≠ y)))) := by
  unfold fNeD; rw [eqP_emb h hn]
  by_cases q : x = y <;> simp [q]
theorem fIn_lst (h : Emb e n) (hn : n < 64) (neg : Bool) (x : γ) (xs : List γ) : fIn neg (e x) (.lst (xs.map e)) = some (.imm (.bl (decide (x ∈ xs) != neg))) := by
  show orf _ _ _ _ = _
  unfold orf
  rw [show fInL neg (e x) (.lst (xs.map e)) = some (.imm (.bl (decide (x ∈ xs) != neg))) from by
    show (anyP (e x) (xs.map e)).map _ = _
    rw [anyP_emb h hn]; rfl]
theorem toVs_ints : ∀ xs : List Int, toVs (xs.map W.int) = some (xs.map V.int)
  | [] => rfl
  | x :: xs => by simp only [List.map_cons, toVs, toV, toVs_ints xs]
theorem inV_ints (x : Int) : ∀ xs : List Int, inV (.int x) (xs.map V.int) = decide (x ∈ xs)
  | [] => rfl
  | y :: ys => by
    have := inV_ints x ys
    unfold inV at this ⊢
    simp only [List.map_cons, List.any_cons, this]
    show ((y == x) || _) = _
    by_cases h : y = x
    · subst h; simp
    · have h' : ¬ x = y := fun z => h z.symm
      simp [h, h']
theorem fIn_tupI (neg : Bool) (x : Int) (xs : List Int) : fIn neg (.int x) (.tup (xs.map W.int)) = some (.imm (.bl (decide (x ∈ xs) != neg))) := by
  show orf _ _ _ _ = _
  unfold orf
  rw [show fInL neg (.int x) (.tup (xs.map W.int)) = none from rfl]
  simp only []
  rw [show fInT neg (.int x) (.tup (xs.map W.int)) = some (.imm (.bl (decide (x ∈ xs) != neg))) from by
    unfold fInT; simp only [toV, toVs_ints, inV_ints]]
end
theorem fEqD_i (a b : Int) : fEqD (.int a) (.int b) = some (.imm (.bl (decide (a = b)))) := fEqD_emb emb_int (by decide) a b
theorem fNeD_i (a b : Int) : fNeD (.int a) (.int b) = some (.imm (.bl (decide (a ≠ b)))) := fNeD_emb emb_int (by decide) a b
theorem fIn_lI (neg : Bool) (x : Int) (xs : List Int) : fIn neg (.int x) (.lst (xs.map W.int)) = some (.imm (.bl (decide (x ∈ xs) != neg))) := fIn_lst emb_int (by decide) neg x xs
end Z
set_option Elab.async false
set_option linter.all false
set_option maxRecDepth 100000
namespace Z
open PySem PySem.Spec PyProof.Rows L2
def Nx (I : Nat → S → Prop) (R : Except Ex Fl → S → Prop) (i : Nat) : Except Ex Fl → S → Prop
  | .ok .nx, s => I (i + 1) s
  | .ok .ct, s => I (i + 1) s
  | .ok .bk, s => R (.ok .nx) s
  | r, s => R r s
section
variable {ws ws0 : List W} {k : Wk} {b : W → Mo Fl} {s : S} {F : Option (Except Ex Fl × S)} {I : Nat → S → Prop} {R : Except Ex Fl → S → Prop} {i : Nat}
@[simp] theorem nx_nx : Nx I R i (.ok .nx) s ↔ I (i + 1) s := Iff.rfl
@[simp] theorem nx_ct : Nx I R i (.ok .ct) s ↔ I (i + 1) s := Iff.rfl
@[simp] theorem nx_bk : Nx I R i (.ok .bk) s ↔ R (.ok .nx) s := Iff.rfl
@[simp] theorem nx_rt {f} : Nx I R i (.ok (.rt f)) s ↔ R (.ok (.rt f)) s := Iff.rfl
@[simp] theorem nx_er {x} : Nx I R i (.error x) s ↔ R (.error x) s := Iff.rfl
theorem forL_x (hF : forL k ws b s = F) (I : Nat → S → Prop) (R : Except Ex Fl → S → Prop) (hok : ∀ i s, I i s → k.ok s) (h0 : I 0 s) (hend : ∀ s, I ws.length s → R (.ok .nx) s)
    (h : ∀ (i : Nat) (hi : i < ws.length) (s : S), I i s → ∃ r s', b ws[i] s = some (r, s') ∧ Nx I R i r s') : ∃ r s', F = some (r, s') ∧ R r s' := forL_exitK hF (R := R) I hok h0 hend fun i hi s hI => by
  obtain ⟨r, s', e, hn⟩ := h i hi s hI
  match r, hn with
  | .ok .nx, hn => exact .inl ⟨s', .inl e, hn⟩
  | .ok .ct, hn => exact .inl ⟨s', .inr e, hn⟩
  | .ok .bk, hn => exact .inr (.inl ⟨s', e, hn⟩)
  | .ok (.rt f), hn => exact .inr (.inr (.inl ⟨f, s', e, hn⟩))
  | .error x, hn => exact .inr (.inr (.inr ⟨x, s', e, hn⟩))
end
end Z
set_option Elab.async false
set_option linter.all false
set_option maxRecDepth 100000
namespace Z
open PySem PySem.Spec PyProof.Rows L2
def Rl (a b : Int) : Prop := RgOk a b
noncomputable instance (a b : Int) : Decidable (Rl a b) := Classical.propDecidable _
noncomputable def fLr1 : W → Option OR
  | .int j => if Rl 0 j then some (.newl (rngW 0 j.toNat)) else none
  | _ => none
section
variable {K : PySem.W.Frag} {mg : Str → Option Value} {ea : EA} {io io' : List Addr} {Fr Fr' : Addr → Prop} {s s' s2 : S} {σ σ' : L2.St} {H H' : Hp} {w : W} {v : V} {c : Cell} {o : HO} {a p : Addr} {ws : List W} {vs : List V} {M : Addr → Prop}
variable {Wx : WX}
theorem rws_rng {lo hi : Int} : Rws K mg io M H (rngW lo (hi - lo).toNat) (rgV lo hi) := by
  refine ⟨by simp [rngW, rgV], fun i w v h1 h2 => ?_⟩
  have hi := get_lt h1
  simp only [rngW, List.length_map, List.length_range] at hi
  simp only [rngW, rgV, List.getElem?_map, List.getElem?_range hi, Option.map_some, Option.some.injEq] at h1 h2
  subst h1 h2
  exact .int _
theorem ref_lr1 {ta : TE} {m : Mo RV} (h : RefE K mg ea Wx ta m) : RefE K mg ea Wx (tLstRg (tRg1 ta)) (mUn fLr1 m) := by
  refine ref_un (r := fun x H Q => ∃ n, x = .int n ∧ RgOk 0 n ∧ ∀ q, H q = none → Q (.ref q) (upd H q (.lst (rgV 0 n)))) (fun io M H x vx z Q rx e q => ?_) h
  unfold fLr1 at e
  split at e
  · split at e
    · rename_i hz
      cases e
      have := rx.int
      subst this
      refine ⟨_, rfl, hz, fun p hp => q p _ hp ?_⟩
      have := rws_rng (K := K) (mg := mg) (io := io) (M := M) (H := H) (lo := 0) (hi := ‹Int›)
      simpa using this
    · cases e
  · cases e
theorem stp_upd {D : Addr} {o' : HO} (hD : M D) : Stp io M (fun _ => False) H io M (upd H D o') where
  p := ⟨fun b u e h => by rw [upd_ne (fun z => by subst z; exact h hD)]; exact e, fun b z => .inl z, fun _ _ e => e⟩
  fr := fun b z => z.elim
  trk := fun b u e => by
    by_cases h : b = D
    · exact ⟨o', by rw [h, upd_same]⟩
    · exact ⟨u, by rw [upd_ne h]; exact e⟩
noncomputable def lcB (vs : List Nat) (t : W → Mo Unit) (tt : Mo Bool) (me : Mo RV) (k : Wk) : List W → List W → S → Option (List W × S)
  | [], acc => fun s => if k.ok s then some (acc, s) else none
  | w :: ws, acc => fun s => if k.ok s then (match (bnd (t w) fun _ => tt) s with
    | some (.ok true, s1) => match (bnd me fun x => freeze (settle x)) s1 with
      | some (.ok y, s2) => if acc.length < sz then lcB vs t tt me k ws (acc ++ [y]) (wipeS vs s2) else none
      | _ => none
    | some (.ok false, s1) => lcB vs t tt me k ws acc (wipeS vs s1)
    | _ => none) else none
noncomputable def lcL2 (vs vs1 : List Nat) (t : W → Mo Unit) (tt : Mo Bool) (mi1 : Mo Wk) (t1 : W → Mo Unit) (tt1 : Mo Bool) (me : Mo RV) (k : Wk) : List W → List W → Mo RV
  | [], acc => fun s => if k.ok s then some (.ok (.own (.lst acc)), s) else none
  | w :: ws, acc => fun s => if k.ok s then (match (bnd (t w) fun _ => tt) s with
    | some (.ok true, s1) => match mi1 s1 with
      | some (.ok k1, s2) => match lcB vs1 t1 tt1 me k1 k1.ws acc (wipeS vs1 s2) with
        | some (acc', s3) => lcL2 vs vs1 t tt mi1 t1 tt1 me k ws acc' (wipeS vs s3)
        | none => none
      | _ => none
    | some (.ok false, s1) => lcL2 vs vs1 t tt mi1 t1 tt1 me k ws acc (wipeS vs s1)
    | _ => none) else none
noncomputable def mLc2 (vs vs1 : List Nat) (mi : Mo Wk) (t : W → Mo Unit) (tt : Mo Bool) (mi1 : Mo Wk) (t1 : W → Mo Unit) (tt1 : Mo Bool) (me : Mo RV) : Mo RV := bnd mi fun k => fun s => lcL2 vs vs1 t tt mi1 t1 tt1 me k k.ws [] (wipeS vs s)
theorem ref_lc2 {wi wi1 : TI} {g g1 : TG} {tt tt1 : TT} {te : TE} {mi mi1 : Mo Wk} {t t1 : W → Mo Unit} {mt mt1 : Mo Bool} {me : Mo RV} {l l1 vs vs1 : List Nat} (hi : RefI K mg ea Wx wi mi) (hg : RefG K mg ea g t l) (hl : ∀ i ∈ l, i ∈ vs) (ht : RefT K mg ea W0 tt mt)
    (hi1 : RefI K mg ea W0 wi1 mi1) (hg1 : RefG K mg ea g1 t1 l1) (hl1 : ∀ i ∈ l1, i ∈ vs1) (hv : ∀ i ∈ vs1, i ∈ vs) (ht1 : RefT K mg ea W0 tt1 mt1) (he : RefE K mg ea W0 te me) :
    RefE K mg ea Wx (tLc2 wi g tt wi1 g1 tt1 te vs vs1) (mLc2 vs vs1 mi t mt mi1 t1 mt1 me) := by
  intro σ H io Fr s S0 r0 s' e Q hok hex
  rcases bnd_some e with ⟨x, e1, rfl⟩ | ⟨kw, s1, e1, e2⟩
  · exact hi σ H io Fr s S0 _ _ e1 _ (fun _ q => by cases q) fun x' q cls d H' io' px => by
      cases q
      exact hex _ rfl cls d H' io' px
  · refine hi σ H io Fr s S0 _ _ e1 _ (fun kw' q J H1 io1 px G => ?_) (fun _ q => by cases q)
    cases q
    intro D hD
    obtain ⟨SD, TD, nD⟩ := px.1.alloc (o := .lst []) hD
    have nFD : ¬ Fr D := fun z => nD (.inl z)
    obtain ⟨SW, lW⟩ := SD.wiped (l := vs) (σ' := wipe σ vs) (wipe_length σ vs) fun j hj => (wipe_get (σ := σ)).1 hj
    have TW := TD.less lW
    refine ⟨fun i m H2 => m = kw.ws.length - i ∧ i ≤ kw.ws.length ∧ ∃ io2 s2 acc av, Sim K mg ea io2 (pls Fr D) s2 (wipe σ vs) H2 ∧ Stp io1 (Ms io1 Fr s1 σ) Fr H1 io2 (Ms io2 (pls Fr D) s2 (wipe σ vs)) H2 ∧
      H2 D = some (.lst av) ∧ Rws K mg io2 (Ms io2 (pls Fr D) s2 (wipe σ vs)) H2 acc av ∧ (∀ j, j ∈ vs → s2.r[j]? = some .non ∨ s2.r[j]? = none) ∧ lcL2 vs vs1 t mt mi1 t1 mt1 me kw (kw.ws.drop i) acc s2 = some (r0, s'),
      ⟨kw.ws.length, by simp, Nat.zero_le _, io1, wipeS vs s1, [], [], SW, TW, upd_same, Rws.nil, fun j hj => (wipeR_get (r := s1.r)).2 hj, by simpa using e2⟩, ?_⟩
    rintro i m H2 ⟨rfl, hle, io2, s2, acc, av, S2, T2, hA, RA, wn, e3⟩
    have ck : kw.ok s2 := by
      cases hd : kw.ws.drop i with
      | nil =>
        rw [hd] at e3; unfold lcL2 at e3; split at e3
        · assumption
        · cases e3
      | cons w ws =>
        rw [hd] at e3; unfold lcL2 at e3; split at e3
        · assumption
        · cases e3
    have cn := cn_of S2 ck
    by_cases hlt : i < kw.ws.length
    · refine .inr ⟨G.go _ _ _ T2.p cn i hlt, fun H3 => ∃ io3 s3 acc av, Sim K mg ea io3 (pls Fr D) s3 (wipe σ vs) H3 ∧ Stp io1 (Ms io1 Fr s1 σ) Fr H1 io3 (Ms io3 (pls Fr D) s3 (wipe σ vs)) H3 ∧
        H3 D = some (.lst av) ∧ Rws K mg io3 (Ms io3 (pls Fr D) s3 (wipe σ vs)) H3 acc av ∧ (∀ j, j ∈ vs → s3.r[j]? = some .non ∨ s3.r[j]? = none) ∧ lcL2 vs vs1 t mt mi1 t1 mt1 me kw (kw.ws.drop (i + 1)) acc s3 = some (r0, s'),
        fun H3 ⟨io3, s3, acc, av, a1, a2, a3, a4, a6, a5⟩ => ⟨kw.ws.length - (i + 1), by omega, rfl, hlt, io3, s3, acc, av, a1, a2, a3, a4, a6, a5⟩, fun x H3 y => ?_⟩
      rw [drop_get hlt] at e3
      have item : ∃ io3, Sim K mg ea io3 (pls Fr D) s2 (wipe σ vs) H3 ∧ Stp io2 (Ms io2 (pls Fr D) s2 (wipe σ vs)) (pls Fr D) H2 io3 (Ms io3 (pls Fr D) s2 (wipe σ vs)) H3 ∧ Rw K mg io3 (Ms io3 (pls Fr D) s2 (wipe σ vs)) H3 kw.ws[i] x := by
        rcases G.yld _ _ _ T2.p cn (fun a z => S2.trkN z) i x H3 y kw.ws[i] (by simp [hlt]) with ⟨rfl, r⟩ | ⟨p, us, ws', hp, rfl, hw, rfl, r⟩
        · exact ⟨io2, S2, .refl, r⟩
        · obtain ⟨S3, T3⟩ := S2.laid (o := .tup us) hp
          have r' := r.pers T3.p
          refine ⟨io2, S3, T3, ?_⟩
          rw [hw]
          refine .tup (.inl ⟨upd_same, fun z => ?_⟩) r'.1 r'.2
          obtain ⟨u, e⟩ := S2.trk z
          rw [hp] at e; cases e
      obtain ⟨io3, S3, T3, R3⟩ := item
      have T23 := T2.trans (T3.frless pls.sub)
      have hA3 : H3 D = some (.lst av) := (T3.fr D (.inr rfl)).trans hA
      have RA3 := RA.pers T3.p
      unfold lcL2 at e3
      rw [if_pos ck] at e3
      cases ex : (bnd (t kw.ws[i]) fun _ => mt) s2 with
      | none => rw [ex] at e3; cases e3
      | some pr =>
        obtain ⟨rb, s4⟩ := pr
        rw [ex] at e3
        rcases bnd_some ex with ⟨z, e5, rfl⟩ | ⟨_, s5, e5, e6⟩
        · have := hg.ne _ _ _ _ e5
          cases this
        · refine hg.go (wipe σ vs) H3 io3 (pls Fr D) s2 _ x S3 R3 _ _ e5 _ fun σ5 S5 l5 n5 k5 => ?_
          have k5' : ∀ j, j ∉ vs → σ5[j]? = (wipe σ vs)[j]? := fun j hj => k5 j fun z => hj (hl j z)
          have we : wipe σ5 vs = wipe σ vs := by rw [wipe_eq n5 k5', wipe_wipe]
          refine ⟨we, ?_⟩
          have T5 : Stp io3 (Ms io3 (pls Fr D) s2 (wipe σ vs)) (pls Fr D) H3 io3 (Ms io3 (pls Fr D) s5 σ5) H3 := Stp.refl.less l5
          have back : ∀ {s6 : S} {H6 : Hp} {io6 : List Addr}, Sim K mg ea io6 (pls Fr D) s6 σ5 H6 → Sim K mg ea io6 (pls Fr D) (wipeS vs s6) (wipe σ vs) H6 ∧ (∀ b, Ms io6 (pls Fr D) (wipeS vs s6) (wipe σ vs) b → Ms io6 (pls Fr D) s6 σ5 b) := fun S6 =>
            S6.wiped (by rw [n5]) fun j hj => (k5' j hj).symm
          have back1 : ∀ {s6 : S} {H6 : Hp} {io6 : List Addr}, Sim K mg ea io6 (pls Fr D) s6 (wipe σ5 vs1) H6 → Sim K mg ea io6 (pls Fr D) (wipeS vs s6) (wipe σ vs) H6 ∧ (∀ b, Ms io6 (pls Fr D) (wipeS vs s6) (wipe σ vs) b → Ms io6 (pls Fr D) s6 (wipe σ5 vs1) b) := fun S6 =>
            S6.wiped (by simp only [wipe_length, n5]) fun j hj => by rw [(wipe_get (σ := σ5)).1 fun z => hj (hv j z)]; exact (k5' j hj).symm
          cases rb with
          | error z => cases e3
          | ok b =>
            refine ht σ5 H3 io3 (pls Fr D) s5 S5 _ _ e6 _ (fun b' q H6 io6 p6 => ?_) fun z q => by cases q
            cases q
            have T36 := T23.trans ((T5.trans p6.2).frless pls.sub)
            have hA6 : H6 D = some (.lst av) := (p6.2.fr D (.inr rfl)).trans hA3
            have RA6 := (RA3.pers T5.p).pers p6.2.p
            cases b with
            | false =>
              rw [if_neg Bool.false_ne_true]
              obtain ⟨S7, l7⟩ := back p6.1
              exact ⟨io6, _, acc, av, S7, T36.less l7, hA6, RA6.pers (.less l7), fun j hj => (wipeR_get (r := s4.r)).2 hj, e3⟩
            | true =>
              rw [if_pos rfl]
              simp only at e3
              cases em : mi1 s4 with
              | none => rw [em] at e3; cases e3
              | some pr1 =>
                obtain ⟨rk, s6⟩ := pr1
                rw [em] at e3
                cases rk with
                | error z => cases e3
                | ok k1 =>
                  simp only at e3
                  cases eb : lcB vs1 t1 mt1 me k1 k1.ws acc (wipeS vs1 s6) with
                  | none => rw [eb] at e3; cases e3
                  | some pr2 =>
                    obtain ⟨accF, sF⟩ := pr2
                    rw [eb] at e3
                    simp only at e3
                    refine hi1 σ5 H6 io6 (pls Fr D) s4 p6.1 _ _ em _ (fun kw' q J1 H7 io7 p7 G1 => ?_) fun z q => by cases q
                    cases q
                    obtain ⟨S7, l7⟩ := p7.1.wiped (l := vs1) (σ' := wipe σ5 vs1) (wipe_length σ5 vs1) fun j hj => (wipe_get (σ := σ5)).1 hj
                    have T37 := T36.trans (p7.2.frless pls.sub)
                    have hA7 : H7 D = some (.lst av) := (p7.2.fr D (.inr rfl)).trans hA6
                    have RA7 := RA6.pers p7.2.p
                    refine ⟨fun j m H8 => m = k1.ws.length - j ∧ j ≤ k1.ws.length ∧ ∃ io8 s8 acc8 av8, Sim K mg ea io8 (pls Fr D) s8 (wipe σ5 vs1) H8 ∧ Stp io1 (Ms io1 Fr s1 σ) Fr H1 io8 (Ms io8 (pls Fr D) s8 (wipe σ5 vs1)) H8 ∧
                      Stp io7 (Ms io7 (pls Fr D) s6 σ5) (fun _ => False) H7 io8 (Ms io8 (pls Fr D) s8 (wipe σ5 vs1)) H8 ∧
                      H8 D = some (.lst av8) ∧ Rws K mg io8 (Ms io8 (pls Fr D) s8 (wipe σ5 vs1)) H8 acc8 av8 ∧ lcB vs1 t1 mt1 me k1 (k1.ws.drop j) acc8 s8 = some (accF, sF),
                      ⟨k1.ws.length, by simp, Nat.zero_le _, io7, wipeS vs1 s6, acc, av, S7, T37.less l7, Stp.refl.less l7, hA7, RA7.pers (.less l7), by simpa using eb⟩, ?_⟩
                    rintro j m H8 ⟨rfl, hle1, io8, s8, acc8, av8, S8, T8, T78, hA8, RA8, e8⟩
                    have ck1 : k1.ok s8 := by
                      cases hd : k1.ws.drop j with
                      | nil =>
                        rw [hd] at e8; unfold lcB at e8; split at e8
                        · assumption
                        · cases e8
                      | cons w ws =>
                        rw [hd] at e8; unfold lcB at e8; split at e8
                        · assumption
                        · cases e8
                    have cn1 := cn_of S8 ck1
                    by_cases hlt1 : j < k1.ws.length
                    · refine .inr ⟨G1.go _ _ _ T78.p cn1 j hlt1, fun H9 => ∃ io8 s8 acc8 av8, Sim K mg ea io8 (pls Fr D) s8 (wipe σ5 vs1) H9 ∧ Stp io1 (Ms io1 Fr s1 σ) Fr H1 io8 (Ms io8 (pls Fr D) s8 (wipe σ5 vs1)) H9 ∧
                        Stp io7 (Ms io7 (pls Fr D) s6 σ5) (fun _ => False) H7 io8 (Ms io8 (pls Fr D) s8 (wipe σ5 vs1)) H9 ∧
                        H9 D = some (.lst av8) ∧ Rws K mg io8 (Ms io8 (pls Fr D) s8 (wipe σ5 vs1)) H9 acc8 av8 ∧ lcB vs1 t1 mt1 me k1 (k1.ws.drop (j + 1)) acc8 s8 = some (accF, sF),
                        fun H9 ⟨io8, s8, acc8, av8, a1, a2, a3, a4, a5, a6⟩ => ⟨k1.ws.length - (j + 1), by omega, rfl, hlt1, io8, s8, acc8, av8, a1, a2, a3, a4, a5, a6⟩, fun x1 H9 y1 => ?_⟩
                      rw [drop_get hlt1] at e8
                      have item1 : ∃ io9, Sim K mg ea io9 (pls Fr D) s8 (wipe σ5 vs1) H9 ∧ Stp io8 (Ms io8 (pls Fr D) s8 (wipe σ5 vs1)) (pls Fr D) H8 io9 (Ms io9 (pls Fr D) s8 (wipe σ5 vs1)) H9 ∧ Rw K mg io9 (Ms io9 (pls Fr D) s8 (wipe σ5 vs1)) H9 k1.ws[j] x1 := by
                        rcases G1.yld _ _ _ T78.p cn1 (fun a z => S8.trkN z) j x1 H9 y1 k1.ws[j] (by simp [hlt1]) with ⟨rfl, r⟩ | ⟨p, us, ws', hp, rfl, hw, rfl, r⟩
                        · exact ⟨io8, S8, .refl, r⟩
                        · obtain ⟨S3, T3⟩ := S8.laid (o := .tup us) hp
                          have r' := r.pers T3.p
                          refine ⟨io8, S3, T3, ?_⟩
                          rw [hw]
                          refine .tup (.inl ⟨upd_same, fun z => ?_⟩) r'.1 r'.2
                          obtain ⟨u, e⟩ := S8.trk z
                          rw [hp] at e; cases e
                      obtain ⟨io9, S9, T9, R9⟩ := item1
                      have T19 := T8.trans (T9.frless pls.sub)
                      have T79 := T78.trans (T9.frless fun b z => z.elim)
                      have hA9 : H9 D = some (.lst av8) := (T9.fr D (.inr rfl)).trans hA8
                      have RA9 := RA8.pers T9.p
                      unfold lcB at e8
                      rw [if_pos ck1] at e8
                      cases ex1 : (bnd (t1 k1.ws[j]) fun _ => mt1) s8 with
                      | none => rw [ex1] at e8; cases e8
                      | some pr3 =>
                        obtain ⟨rb1, s10⟩ := pr3
                        rw [ex1] at e8
                        rcases bnd_some ex1 with ⟨z, e9, rfl⟩ | ⟨_, s11, e9, e10⟩
                        · have := hg1.ne _ _ _ _ e9
                          cases this
                        · refine hg1.go (wipe σ5 vs1) H9 io9 (pls Fr D) s8 _ x1 S9 R9 _ _ e9 _ fun σ6 S11 l11 n11 k11 => ?_
                          have k11' : ∀ j, j ∉ vs1 → σ6[j]? = (wipe σ5 vs1)[j]? := fun j hj => k11 j fun z => hj (hl1 j z)
                          have we1 : wipe σ6 vs1 = wipe σ5 vs1 := by rw [wipe_eq n11 k11', wipe_wipe]
                          refine ⟨we1, ?_⟩
                          have T11 : Stp io9 (Ms io9 (pls Fr D) s8 (wipe σ5 vs1)) (pls Fr D) H9 io9 (Ms io9 (pls Fr D) s11 σ6) H9 := Stp.refl.less l11
                          have back2 : ∀ {s6 : S} {H6 : Hp} {io6 : List Addr}, Sim K mg ea io6 (pls Fr D) s6 σ6 H6 → Sim K mg ea io6 (pls Fr D) (wipeS vs1 s6) (wipe σ5 vs1) H6 ∧ (∀ b, Ms io6 (pls Fr D) (wipeS vs1 s6) (wipe σ5 vs1) b → Ms io6 (pls Fr D) s6 σ6 b) := fun S6 =>
                            S6.wiped (by rw [n11]) fun j hj => (k11' j hj).symm
                          cases rb1 with
                          | error z => cases e8
                          | ok b1 =>
                            refine ht1 σ6 H9 io9 (pls Fr D) s11 S11 _ _ e10 _ (fun b' q H12 io12 p12 => ?_) fun z q => by cases q
                            cases q
                            have T12 := T11.trans p12.2
                            have T112 := T19.trans (T12.frless pls.sub)
                            have T712 := T79.trans (T12.frless fun b z => z.elim)
                            have hA12 : H12 D = some (.lst av8) := (T12.fr D (.inr rfl)).trans hA9
                            have RA12 := RA9.pers T12.p
                            cases b1 with
                            | false =>
                              rw [if_neg Bool.false_ne_true]
                              obtain ⟨S13, l13⟩ := back2 p12.1
                              exact ⟨io12, _, acc8, av8, S13, T112.less l13, T712.less l13, hA12, RA12.pers (.less l13), e8⟩
                            | true =>
                              rw [if_pos rfl]
                              simp only at e8
                              cases ey : (bnd me fun x => freeze (settle x)) s10 with
                              | none => rw [ey] at e8; cases e8
                              | some pr4 =>
                                obtain ⟨ry, s13⟩ := pr4
                                rw [ey] at e8
                                cases ry with
                                | error z => cases e8
                                | ok yv =>
                                  simp only at e8
                                  split at e8
                                  · rename_i hz
                                    refine one2 he p12.1 ey (fun x q => by cases q) fun xr v s14 H14 io14 e14 p14 => ?_
                                    obtain ⟨S14, T14, R14⟩ := p14.settled
                                    obtain ⟨_, l15, S15, w', q, R15⟩ := freeze_ok S14 R14 e14
                                    cases q
                                    have hA14 : H14 D = some (.lst av8) := (T14.fr D (.inr rfl)).trans hA12
                                    have RA14 := (RA12.pers T14.p).pers (.less l15)
                                    refine ⟨av8, hA14, by rw [sz_eq, ← RA14.1]; exact hz, ?_⟩
                                    have S16 := S15.updFr (o' := .lst (av8 ++ [v])) (.inr rfl) hA14
                                    obtain ⟨S17, l17⟩ := back2 S16
                                    have T17 : Stp io1 (Ms io1 Fr s1 σ) Fr H1 io14 (Ms io14 (pls Fr D) (wipeS vs1 s13) (wipe σ5 vs1)) (upd H14 D (.lst (av8 ++ [v]))) :=
                                      ((T112.trans ((T14.less l15).frless pls.sub)).updNew hD nFD hA14).less l17
                                    have T7b : Stp io7 (Ms io7 (pls Fr D) s6 σ5) (fun _ => False) H7 io14 (Ms io14 (pls Fr D) s13 σ6) H14 := T712.trans ((T14.less l15).frless fun b z => z.elim)
                                    have T7c : Stp io7 (Ms io7 (pls Fr D) s6 σ5) (fun _ => False) H7 io14 (Ms io14 (pls Fr D) (wipeS vs1 s13) (wipe σ5 vs1)) (upd H14 D (.lst (av8 ++ [v]))) := (T7b.trans (stp_upd (.inr (.inl (.inr rfl))))).less l17
                                    have PD : Pers io14 (Ms io14 (pls Fr D) s13 σ6) H14 io14 (Ms io14 (pls Fr D) (wipeS vs1 s13) (wipe σ5 vs1)) (upd H14 D (.lst (av8 ++ [v]))) :=
                                      ⟨fun b u e h => by rw [upd_ne (fun z => by subst z; exact h (.inr (.inl (.inr rfl))))]; exact e, fun b z => .inl (l17 b z), fun _ _ e => e⟩
                                    exact ⟨io14, _, acc8 ++ [yv], av8 ++ [v], S17, T17, T7c, upd_same, (RA14.append (Rws.one R15)).pers PD, e8⟩
                                  · cases e8
                    · have hi' : j = k1.ws.length := by omega
                      subst hi'
                      rw [List.drop_length] at e8
                      unfold lcB at e8
                      rw [if_pos ck1] at e8
                      cases e8
                      obtain ⟨S13, l13⟩ := back1 S8
                      exact .inl ⟨G1.stop _ _ _ T78.p cn1, io8, _, accF, av8, S13, T8.less l13, hA8, RA8.pers (.less l13), fun j hj => (wipeR_get (r := sF.r)).2 hj, e3⟩
    · have hi' : i = kw.ws.length := by omega
      subst hi'
      rw [List.drop_length] at e3
      unfold lcL2 at e3
      rw [if_pos ck] at e3
      cases e3
      refine .inl ⟨G.stop _ _ _ T2.p cn, hok _ rfl (.ref D) H2 io2 ?_⟩
      obtain ⟨S3, l3⟩ := S2.sub (r' := s'.r) (σ' := σ) (by rw [S2.len, wipe_length]) fun j => by
        by_cases hj : j ∈ vs
        · exact .inr (wn j hj)
        · exact .inl ⟨rfl, ((wipe_get (σ := σ)).1 hj).symm⟩
      refine ⟨D, .lst av, rfl, hA, fun z => ?_, S3, (px.2.trans T2).less l3, av, rfl, RA.pers (.less l3)⟩
      rcases z with z | ⟨j, c, h1, h2⟩
      · exact nFD z
      · obtain ⟨b, o, q1, _, _, q4⟩ := S3.own j c h1
        rw [h2] at q1
        cases q1
        exact q4 (.inr rfl)
end
section
variable {X : Cx} {ea : EA} {Wx : WX} {pos p p2 pos2 : Pos} {a b : Expr} {m m' : Mo RV}
def iOf (K : PySem.W.Frag) (mg : Str → Option Value) (ea : EA) (Wx : WX) (m : Mo Wk) : TI := fun σ H R => ∃ io Fr s r s', Sim K mg ea io Fr s σ H ∧ m s = some (r, s') ∧ (∀ k, r = .ok k → ∀ J H' io', PostS K mg ea io Fr s σ H s' σ io' H' → ItG K mg J k io' (Ms io' Fr s' σ) H' → R J H') ∧
  (∀ x, r = .error x → ∀ cls d H' io', PostX K mg ea io Fr s σ H s' σ io' H' x cls d → Wx cls d σ H')
theorem ref_iOf {K : PySem.W.Frag} {mg : Str → Option Value} (m : Mo Wk) : RefI K mg ea Wx (iOf K mg ea Wx m) m := fun σ H io Fr s S0 r s' e Q h1 h2 => ⟨io, Fr, s, r, s', S0, e, h1, h2⟩
theorem Pei.can {tg iter : Expr} {mi : Mo Wk} (h : Pei X ea Wx tg iter mi) : PI X tg iter (iOf X.K X.mg ea Wx mi) := by
  obtain ⟨wi, q, r⟩ := h.ex
  exact ⟨fun pins s σ H R I ⟨io, Fr, s1, r0, s', S0, e, h1, h2⟩ => q.run pins s σ H R I (r σ H io Fr s1 S0 r0 s' e R h1 h2)⟩
structure Blk2 (X : Cx) (ea : EA) (tg elt : Expr) (ifs : List Expr) (tg1 iter1 : Expr) (ifs1 : List Expr) (scope : Scope) (own : List (Str × Nat)) (vs1 : List Nat) (t : W → Mo Unit) (l : List Nat) (mt : Mo Bool) (mi1 : Mo Wk) (t1 : W → Mo Unit) (l1 : List Nat) (mt1 : Mo Bool) (me : Mo RV) : Prop where
  ok : BlkOk X.N X.env.scope scope own
  ne : ∀ w s r s', t w s = some (r, s') → r = .ok ()
  sub : ∀ i ∈ l, i ∈ own.map (·.2)
  ne1 : ∀ w s r s', t1 w s = some (r, s') → r = .ok ()
  sub1 : ∀ i ∈ l1, i ∈ vs1
  hv : ∀ i ∈ vs1, i ∈ own.map (·.2)
  tg : ∀ (s : Shared) (H : Hp) (C : Addr) (cl : List (Str × Addr)) (fp : List Addr), Peg (X.blk s H scope (compEnvC scope cl C X.env) fp) ea tg t l
  ts : ∀ (s : Shared) (H : Hp) (C : Addr) (cl : List (Str × Addr)) (fp : List Addr), Pets (X.blk s H scope (compEnvC scope cl C X.env) fp) ea W0 ifs mt
  it : ∀ (s : Shared) (H : Hp) (C : Addr) (cl : List (Str × Addr)) (fp : List Addr), Pei (X.blk s H scope (compEnvC scope cl C X.env) fp) ea W0 tg1 iter1 mi1
  tg1 : ∀ (s : Shared) (H : Hp) (C : Addr) (cl : List (Str × Addr)) (fp : List Addr), Peg (X.blk s H scope (compEnvC scope cl C X.env) fp) ea tg1 t1 l1
  ts1 : ∀ (s : Shared) (H : Hp) (C : Addr) (cl : List (Str × Addr)) (fp : List Addr), Pets (X.blk s H scope (compEnvC scope cl C X.env) fp) ea W0 ifs1 mt1
  el : ∀ (s : Shared) (H : Hp) (C : Addr) (cl : List (Str × Addr)) (fp : List Addr), Pee (X.blk s H scope (compEnvC scope cl C X.env) fp) ea W0 elt me
section
variable {tg elt tg1 iter iter1 : Expr} {ifs ifs1 : List Expr} {scope : Scope} {own : List (Str × Nat)} {vs1 : List Nat} {t : W → Mo Unit} {l : List Nat} {mt : Mo Bool} {mi mi1 : Mo Wk} {t1 : W → Mo Unit} {l1 : List Nat} {mt1 : Mo Bool} {me : Mo RV}
theorem Blk2.ref (b : Blk2 X ea tg elt ifs tg1 iter1 ifs1 scope own vs1 t l mt mi1 t1 l1 mt1 me) {wi : TI} (r : RefI X.K X.mg ea Wx wi mi) : RefE X.K X.mg ea Wx (tLc2 wi (gOf X.K X.mg ea t l) (ttOf X.K X.mg ea W0 mt) (iOf X.K X.mg ea W0 mi1) (gOf X.K X.mg ea t1 l1) (ttOf X.K X.mg ea W0 mt1) (tOf X.K X.mg ea W0 me) (own.map (·.2)) vs1) (mLc2 (own.map (·.2)) vs1 mi t mt mi1 t1 mt1 me) :=
  ref_lc2 r (ref_gOf b.ne) b.sub (ref_ttOf _) (ref_iOf _) (ref_gOf b.ne1) b.sub1 b.hv (ref_ttOf _) (ref_tOf _)
theorem pes_setLc2 (i : Nat) {y : Str} {py spos : Pos} (hN : X.N.Nodup) (hi : Pei X ea Wx tg iter mi) (b : Blk2 X ea tg elt ifs tg1 iter1 ifs1 scope own vs1 t l mt mi1 t1 l1 mt1 me) (hy : X.N[i]? = some y := by rfl) (hyl : X.env.scope.names.lookup y = some .local := by rfl)
    (hsw : swapsWith (.ListComp elt [⟨tg, iter, ifs, 0⟩, ⟨tg1, iter1, ifs1, 0⟩] scope pos) (some (.Name y py)) spos.line X.env = pure true := by exact sw_true rfl rfl rfl (by decide +kernel)) (hc : X.calm = true := by rfl) (hs : ∀ x, foldedSetIterable iter X.env x = pure x := by intro _; rfl) (hs1 : ∀ env x, foldedSetIterable iter1 env x = pure x := by intro _ _; rfl) :
    Pes X ea Wx (.Assign [.Name y py] (.ListComp elt [⟨tg, iter, ifs, 0⟩, ⟨tg1, iter1, ifs1, 0⟩] scope pos) spos) (mAsg i (mLc2 (own.map (·.2)) vs1 mi t mt mi1 t1 mt1 me)) := by
  obtain ⟨wi, p, r⟩ := hi.ex
  exact ⟨_, ps_setLc2 hc hN hy hyl hsw p b.ok b.hv (fun s H C cl fp => (b.tg s H C cl fp).can) (fun s H C cl fp => (b.ts s H C cl fp).can) (fun s H C cl fp => (b.it s H C cl fp).can) (fun s H C cl fp => (b.tg1 s H C cl fp).can) (fun s H C cl fp => (b.ts1 s H C cl fp).can) (fun s H C cl fp => (b.el s H C cl fp).can) hs hs1, ref_asg i (b.ref r)⟩
end
theorem pee_lr1 (hm : X.mg "list" = none) (hr : X.mg "range" = none) (h : Pee X ea Wx a m) (hc : X.calm = true := by rfl) (hg : Gl X "list" := by rfl) (hg2 : Gl X "range" := by rfl) (na : starEach [a] X.env = (false, eval a X.env) :: starEach [] X.env := by rfl)
    (nb : starEach [.Call (.Name "range" p2) [a] [] pos2] X.env = (false, eval (.Call (.Name "range" p2) [a] [] pos2) X.env) :: starEach [] X.env := by rfl) :
    Pee X ea Wx (.Call (.Name "list" p) [.Call (.Name "range" p2) [a] [] pos2] [] pos) (mUn fLr1 m) := let ⟨_, q, r⟩ := h.ex; ⟨_, pe_listRg hc hg hm (prg_1 hg2 hr q na) nb, ref_lr1 r⟩
end
end Z
set_option Elab.async false
set_option linter.all false
set_option maxRecDepth 100000
namespace Z
open PySem PySem.Spec PyProof.Rows L2
section
variable {r : List SV} {G : List Cell} {m ma mb me : Mo RV} {s : S} {vs vs1 : List Nat} {t t1 : W → Mo Unit} {tt tt1 : Mo Bool} {mi mi1 : Mo Wk} {k : Wk} {a b : Int}
@[simp] theorem mLc2_e : mLc2 vs vs1 mi t tt mi1 t1 tt1 me ⟨r, G⟩ = bnd mi (fun k s => lcL2 vs vs1 t tt mi1 t1 tt1 me k k.ws [] (wipeS vs s)) ⟨r, G⟩ := rfl
@[simp] theorem fLr1_i : fLr1 (.int a) = if Rl 0 a then some (.newl (rngW 0 a.toNat)) else none := rfl
theorem rl_nat {n : Nat} (h : n ≤ 1000000) : Rl 0 (n : Int) := by
  unfold Rl RgOk
  omega
theorem rl_le {i j : Int} (h1 : 0 ≤ i) (h2 : j ≤ 1000000) (h3 : i ≤ 1000000) (h4 : 0 ≤ j) : Rl i j := by
  unfold Rl RgOk
  omega
variable {γ δ : Type} {e : γ → W} {e1 : δ → W}
theorem lcB_pure (hk : k.ok s) (p : γ → Bool) (f : γ → W) : ∀ (xs : List γ) (acc : List W), (∀ x ∈ xs, ∃ s1, (bnd (t (e x)) fun _ => tt) s = some (.ok (p x), s1) ∧ (p x = true → ∃ s2, (bnd me fun y => freeze (settle y)) s1 = some (.ok (f x), s2) ∧ wipeS vs s2 = s) ∧ (p x = false → wipeS vs s1 = s)) →
    acc.length + xs.length ≤ sz → lcB vs t tt me k (xs.map e) acc s = some (acc ++ (xs.filter p).map f, s)
  | [], acc, _, _ => by
    simp only [List.map_nil, List.filter_nil, List.append_nil]
    unfold lcB
    exact if_pos hk
  | x :: xs, acc, h, hl => by
    obtain ⟨s1, e1, h1, h2⟩ := h x List.mem_cons_self
    have hr := fun y hy => h y (List.mem_cons_of_mem x hy)
    simp only [List.map_cons]
    unfold lcB
    rw [if_pos hk, e1]
    cases q : p x with
    | true =>
      obtain ⟨s2, e2, e3⟩ := h1 q
      simp only [e2]
      rw [if_pos (by simp at hl; omega), e3, lcB_pure hk p f xs _ hr (by simp at hl ⊢; omega)]
      simp [List.filter_cons, q]
    | false =>
      simp only []
      rw [h2 q, lcB_pure hk p f xs _ hr (by simp at hl ⊢; omega)]
      simp [List.filter_cons, q]
theorem lc2_pure (hk : k.ok s) (ys : γ → List δ) (p : γ → δ → Bool) (f : γ → δ → W) : ∀ (xs : List γ) (acc : List W), (∀ x ∈ xs, ∃ s1, (bnd (t (e x)) fun _ => tt) s = some (.ok true, s1) ∧ ∃ k1 s2, mi1 s1 = some (.ok k1, s2) ∧ k1.ws = (ys x).map e1 ∧ k1.ok (wipeS vs1 s2) ∧ wipeS vs (wipeS vs1 s2) = s ∧
      ∀ y ∈ ys x, ∃ s4, (bnd (t1 (e1 y)) fun _ => tt1) (wipeS vs1 s2) = some (.ok (p x y), s4) ∧ (p x y = true → ∃ s5, (bnd me fun y => freeze (settle y)) s4 = some (.ok (f x y), s5) ∧ wipeS vs1 s5 = wipeS vs1 s2) ∧ (p x y = false → wipeS vs1 s4 = wipeS vs1 s2)) →
    acc.length + (xs.map fun x => (ys x).length).sum ≤ sz → lcL2 vs vs1 t tt mi1 t1 tt1 me k (xs.map e) acc s = some (.ok (.own (.lst (acc ++ xs.flatMap fun x => ((ys x).filter (p x)).map (f x)))), s)
  | [], acc, _, _ => by
    simp only [List.map_nil, List.flatMap_nil, List.append_nil]
    unfold lcL2
    exact if_pos hk
  | x :: xs, acc, h, hl => by
    obtain ⟨s1, q1, k1, s2, q2, q3, q4, q5, q6⟩ := h x List.mem_cons_self
    have hr := fun y hy => h y (List.mem_cons_of_mem x hy)
    simp only [List.map_cons]
    unfold lcL2
    rw [if_pos hk, q1]
    simp only [q2, q3]
    simp only [List.map_cons, List.sum_cons] at hl
    have hf : ((ys x).filter (p x)).length ≤ (ys x).length := List.length_filter_le _ _
    rw [lcB_pure q4 (p x) (f x) (ys x) acc q6 (by omega)]
    simp only []
    rw [q5, lc2_pure hk ys p f xs _ hr (by simp; omega)]
    simp
end
def outF : Option (Except Ex Fl × S) → Option (Except Ex FV × List Cell)
  | some (.ok (.rt f), s) => some (.ok f, s.G)
  | some (.ok .nx, s) => some (.ok (.val .non), s.G)
  | some (.error x, s) => some (.error x, s.G)
  | _ => none
theorem fnM_o {n : Nat} {body : Mo Fl} {ws : List W} {G : List Cell} : fnM n body ws G = outF (body ⟨ws.map SV.val ++ List.replicate (n - ws.length) SV.non, G⟩) := rfl
@[simp] theorem outF_rt {f : FV} {s : S} : outF (some (.ok (.rt f), s)) = some (.ok f, s.G) := rfl
@[simp] theorem outF_nx {s : S} : outF (some (.ok .nx, s)) = some (.ok (.val .non), s.G) := rfl
@[simp] theorem outF_er {x : Ex} {s : S} : outF (some (.error x, s)) = some (.error x, s.G) := rfl
end Z
set_option Elab.async false
set_option linter.all false
set_option maxRecDepth 100000
namespace Z
open PySem PySem.Spec PyProof.Rows L2
abbrev TB := L2.St → Hp → (Hp → Prop) → Prop
def Clean (L : List Nat) (σ : L2.St) : Prop := ∀ j ∈ L, ∀ v, σ[j]? ≠ some (some v)
structure PB (X : Cx) (inner : Sem Fin → Sem Fin) (L : List Nat) (t : TB) : Prop where
  run : ∀ (pl : List (Addr × Obj)) (s : Shared) (σ : L2.St) (H : Hp) (N : Hp → Prop), Inv X pl σ H s → Clean L σ → t σ H N → ∀ (k : Sem Fin) (Q : Fin → Shared → Prop) (E : Value → Shared → Prop),
    (∀ s' H', Inv X pl σ H' s' → N H' → wpAny (model X.prog X.w) X.A k Q E s') → wpAny (model X.prog X.w) X.A (inner k) Q E s
end Z
set_option Elab.async false
set_option linter.all false
set_option maxRecDepth 100000
namespace Z
open PySem PySem.Spec PyProof.Rows L2
abbrev KVs := List (List Key × W)
abbrev MB := KVs → S → Option (KVs × S)
end Z
set_option Elab.async false
set_option linter.all false
set_option maxRecDepth 100000
namespace Z
open PySem PySem.Spec PyProof.Rows L2
section
variable {X : Cx} {ea : EA} {Wx : WX} {pos : Pos} {ke ve tg iter : Expr} {ifs : List Expr} {scope : Scope} {own : List (Str × Nat)} {mi : Mo Wk} {t : W → Mo Unit} {l : List Nat} {mt : Mo Bool} {mk mv me : Mo RV}
structure BlkD (X : Cx) (ea : EA) (tg ke ve : Expr) (ifs : List Expr) (scope : Scope) (own : List (Str × Nat)) (t : W → Mo Unit) (l : List Nat) (mt : Mo Bool) (mk mv : Mo RV) : Prop where
  ok : BlkOk X.N X.env.scope scope own
  ne : ∀ w s r s', t w s = some (r, s') → r = .ok ()
  sub : ∀ i ∈ l, i ∈ own.map (·.2)
  tg : ∀ (s : Shared) (H : Hp) (C : Addr) (cl : List (Str × Addr)) (fp : List Addr), Peg (X.blk s H scope (compEnvC scope cl C X.env) fp) ea tg t l
  ts : ∀ (s : Shared) (H : Hp) (C : Addr) (cl : List (Str × Addr)) (fp : List Addr), Pets (X.blk s H scope (compEnvC scope cl C X.env) fp) ea W0 ifs mt
  ky : ∀ (s : Shared) (H : Hp) (C : Addr) (cl : List (Str × Addr)) (fp : List Addr), Pee (X.blk s H scope (compEnvC scope cl C X.env) fp) ea W0 ke mk
  vl : ∀ (s : Shared) (H : Hp) (C : Addr) (cl : List (Str × Addr)) (fp : List Addr), Pee (X.blk s H scope (compEnvC scope cl C X.env) fp) ea W0 ve mv
structure BlkD3 (X : Cx) (ea : EA) (tg ke ve : Expr) (ifs : List Expr) (tg1 i1 : Expr) (f1 : List Expr) (tg2 i2 : Expr) (f2 : List Expr) (scope : Scope) (own : List (Str × Nat)) (v0 v1 v2 : List Nat) (t : W → Mo Unit) (l : List Nat) (mt : Mo Bool) (mi1 : Mo Wk) (t1 : W → Mo Unit) (l1 : List Nat) (mt1 : Mo Bool) (mi2 : Mo Wk) (t2 : W → Mo Unit) (l2 : List Nat) (mt2 : Mo Bool) (mk mv : Mo RV) : Prop where
  ok : BlkOk X.N X.env.scope scope own
  ne : ∀ w s r s', t w s = some (r, s') → r = .ok ()
  ne1 : ∀ w s r s', t1 w s = some (r, s') → r = .ok ()
  ne2 : ∀ w s r s', t2 w s = some (r, s') → r = .ok ()
  sub : ∀ i ∈ l, i ∈ v0
  sub1 : ∀ i ∈ l1, i ∈ v1
  sub2 : ∀ i ∈ l2, i ∈ v2
  hv : (∀ i ∈ v0, i ∈ own.map (·.2)) ∧ (∀ i ∈ v1 ++ (v2 ++ []), i ∈ own.map (·.2)) ∧ (∀ i ∈ v1 ++ (v2 ++ []), i ∉ v0) ∧ ∀ i ∈ v2 ++ [], i ∉ v1
  tg : ∀ (s : Shared) (H : Hp) (C : Addr) (cl : List (Str × Addr)) (fp : List Addr), Peg (X.blk s H scope (compEnvC scope cl C X.env) fp) ea tg t l
  ts : ∀ (s : Shared) (H : Hp) (C : Addr) (cl : List (Str × Addr)) (fp : List Addr), Pets (X.blk s H scope (compEnvC scope cl C X.env) fp) ea W0 ifs mt
  it1 : ∀ (s : Shared) (H : Hp) (C : Addr) (cl : List (Str × Addr)) (fp : List Addr), Pei (X.blk s H scope (compEnvC scope cl C X.env) fp) ea W0 tg1 i1 mi1
  tg1 : ∀ (s : Shared) (H : Hp) (C : Addr) (cl : List (Str × Addr)) (fp : List Addr), Peg (X.blk s H scope (compEnvC scope cl C X.env) fp) ea tg1 t1 l1
  ts1 : ∀ (s : Shared) (H : Hp) (C : Addr) (cl : List (Str × Addr)) (fp : List Addr), Pets (X.blk s H scope (compEnvC scope cl C X.env) fp) ea W0 f1 mt1
  it2 : ∀ (s : Shared) (H : Hp) (C : Addr) (cl : List (Str × Addr)) (fp : List Addr), Pei (X.blk s H scope (compEnvC scope cl C X.env) fp) ea W0 tg2 i2 mi2
  tg2 : ∀ (s : Shared) (H : Hp) (C : Addr) (cl : List (Str × Addr)) (fp : List Addr), Peg (X.blk s H scope (compEnvC scope cl C X.env) fp) ea tg2 t2 l2
  ts2 : ∀ (s : Shared) (H : Hp) (C : Addr) (cl : List (Str × Addr)) (fp : List Addr), Pets (X.blk s H scope (compEnvC scope cl C X.env) fp) ea W0 f2 mt2
  ky : ∀ (s : Shared) (H : Hp) (C : Addr) (cl : List (Str × Addr)) (fp : List Addr), Pee (X.blk s H scope (compEnvC scope cl C X.env) fp) ea W0 ke mk
  vl : ∀ (s : Shared) (H : Hp) (C : Addr) (cl : List (Str × Addr)) (fp : List Addr), Pee (X.blk s H scope (compEnvC scope cl C X.env) fp) ea W0 ve mv
end
end Z
set_option linter.all false
set_option Elab.async false
set_option maxRecDepth 100000
set_option linter.all false
set_option Elab.async false
set_option maxRecDepth 100000
namespace Z
open PySem PySem.Spec PyProof.Rows L2
def srcD (d : Addr) (ob : Obj) (av : List (List Key × V)) : Src where
  src := d
  len := av.length
  st := fun it i h => ∃ es ep, ob.data = .dict es ep ∧ es.size = av.length ∧ h.IsKeyIter it d i es.size ep
  fin := fun _ => none
  yl := fun i v H => ∃ k u q, av[i]? = some (k, u) ∧ v = .ref q ∧ H q = some (.tup (k.map kV))
  ok := fun H => H d = some (.frz ob (.dT av))
end Z
set_option linter.all false
set_option Elab.async false
set_option maxRecDepth 100000
namespace Z
open PySem PySem.Spec PyProof.Rows L2
abbrev FunE (K : PySem.W.Frag) (x qual : Str) (st : Stmt) (f : Addr) (fd : FuncData) (E : Addr) : Prop := L2.FunD K x qual (defArgs st) (defBody st) (defScope st) [.ref E] [] f fd
section
variable {P : Program} {w : World} {K : PySem.W.Frag} {mg : Str → Option Value} {base : Heap} {x qual : Str} {st : Stmt} {f E : Addr} {fd : FuncData} {N ps : List Str} {k n : Nat} {body : Mo Fl}
abbrev BindE (x qual : Str) (st : Stmt) (ps : List Str) (n j : Nat) : Prop := ∀ (T : Addr) (kV doc pm : Value) (an : Option Addr) (cdv ct : Value) (us its : List Value), us.length = n → its.length = 1 →
  ∃ k, bindArgs (PySem.W.fnOf x qual (defArgs st) (defBody st) (defScope st) (.ref T) kV doc pm an cdv ct) ⟨us, []⟩ = seqItems? (.ref T) >>= k ∧ k (some its.toArray) = pure (ps.zip (us ++ its.drop j))
theorem FunE.all (F : FunE K x qual st f fd E) (h : BindE x qual st ps ps.length 1) : Binds K fd ps [] := by
  obtain ⟨ds, r, b⟩ := L2.FunD.binds1 F ps.length 1 (by simp) (by simp) h
  cases r
  exact b
theorem FunE.less (F : FunE K x qual st f fd E) (n : Nat) (hn : n + 1 = ps.length) (h : BindE x qual st ps n 0) : Binds K fd ps [.ref E] := by
  obtain ⟨ds, r, b⟩ := L2.FunD.binds1 F n 0 (by simp) (by simpa using hn) h
  obtain ⟨u, rfl, e⟩ := Vals.one r
  cases e
  exact b
end
end Z
set_option linter.all false
set_option Elab.async false
set_option maxRecDepth 100000
namespace Z
open PySem PySem.Spec PyProof.Rows L2
section
variable {r : List SV} {G : List Cell} {s : S} {m mk mv : Mo RV} {ms : Mo (List RV)} {mi : Mo Wk} {t : W → Mo Unit} {tt : Mo Bool} {body : MB} {ow vs : List Nat} {acc : KVs} {k : Wk} {w : W} {kvs : KVs}
@[simp] theorem deref_dF : derefW s (.dF kvs) = some (.dF kvs) := rfl
@[simp] theorem look_dF : look (.val (.dF kvs)) ⟨r, G⟩ = some (.ok (.dF kvs), ⟨r, G⟩) := rfl
variable {γ : Type} {e : γ → W}
end
end Z
set_option linter.all false
set_option Elab.async false
set_option maxRecDepth 100000
set_option linter.all false
set_option Elab.async false
set_option maxRecDepth 100000
namespace Z
open PySem PySem.Spec PyProof.Rows L2
structure FnIt (P : Program) (w : World) (K : PySem.W.Frag) (mg : Str → Option Value) (base : Heap) (f : Addr) (fd : FuncData) (ps : List Str) (C : Addr) (fl : Str) : Prop where
  run : ∀ (A : Around) (outer : List Env) (s : Shared) (H : Hp) (args : Args) (us : List Value) (a : Addr) (Q : VK), Room 1 A → Env0 P w K mg base A outer s H → BindsTo s fd args (ps.zip us) → Vals [.ref a] us →
    (∃ dx fs d ob av, H a = some (.ins C dx fs) ∧ fs.lookup fl = some (.ref d) ∧ H d = some (.frz ob (.dT av)) ∧ ∀ it, H it = none → s.heap.objs.size ≤ it → Q (.ref it) (upd H it ((srcD d ob av).at it 0))) →
    codeAny (model P w) A (.call (.ref f) args) (CR (L2.CX P w) outer P w H s Q E0) s
end Z
set_option linter.all false
set_option Elab.async false
set_option maxRecDepth 100000
set_option linter.all false
set_option Elab.async false
set_option maxRecDepth 100000
namespace Z
open PySem PySem.Spec PyProof.Rows L2
structure Sl5 (K : PySem.W.Frag) (C : Addr) (n0 n1 n2 n3 n4 : Str) : Prop where
  c : SlX.SCls K C
  s0 : ∃ p, SlX.Slot1 K C n0 p 2
  s1 : ∃ p, SlX.Slot1 K C n1 p 3
  s2 : ∃ p, SlX.Slot1 K C n2 p 1
  s3 : ∃ p, SlX.Slot1 K C n3 p 4
  s4 : ∃ p, SlX.Slot1 K C n4 p 0
end Z
set_option linter.all false
set_option Elab.async false
set_option maxRecDepth 100000
namespace Z
open PySem PySem.Spec PyProof.Rows L2
def SlN (K : PySem.W.Frag) (mg : Str → Option Value) (tab : List (Str × Nat)) (f : Str) : Prop := ∀ nm i, tab.lookup nm = some i → ∃ C, mg nm = some (.ref C) ∧ SlX.SCls K C ∧ ∃ p, SlX.Slot1 K C f p i
theorem SlN.nil {K : PySem.W.Frag} {mg : Str → Option Value} {f : Str} : SlN K mg [] f := fun nm i h => by cases h
theorem SlN.cons {K : PySem.W.Frag} {mg : Str → Option Value} {f nm : Str} {C p : Addr} {i : Nat} {tab : List (Str × Nat)} (hC : mg nm = some (.ref C)) (c : SlX.SCls K C) (s : SlX.Slot1 K C f p i) (r : SlN K mg tab f) : SlN K mg ((nm, i) :: tab) f := fun n j h => by
  rw [List.lookup_cons] at h
  by_cases e : (n == nm) = true
  · rw [e] at h
    cases h
    rw [eq_of_beq e]
    exact ⟨C, hC, c, p, s⟩
  · rw [show (n == nm) = false by simpa using e] at h
    exact r n j h
section
variable {K : PySem.W.Frag} {mg : Str → Option Value} {ea : EA} {Wx : WX} {io : List Addr} {Fr : Addr → Prop} {s s' : S} {σ : L2.St} {H : Hp} {M : Addr → Prop} {nm : Str} {ws : List W} {v : V}
theorem Rn.slt (h : Rn K mg io M H (.slt nm ws) v) : ∃ (a C dx : Addr) (vs : List V), v = .ref a ∧ mg nm = some (.ref C) ∧ H a = some (SlX.SlO a C dx (vs.map some)) ∧ H dx = some (.xd []) ∧ Rws K mg io M H ws vs := by
  rcases h with h | ⟨c, o, a, e, rfl, ha, hc⟩
  · cases h with
    | slt m h n h2 n2 l q => exact ⟨_, _, _, _, rfl, m, h, h2, l, q⟩
  · cases c <;> cases e
end
section
variable {r : List SV} {G : List Cell} {ms : Mo (List RV)} {nm : Str} {ws : List W} {a b c d e : W} {tab : List (Str × Nat)}
@[simp] theorem look_slt : look (.val (.slt nm ws)) ⟨r, G⟩ = some (.ok (.slt nm ws), ⟨r, G⟩) := rfl
@[simp] theorem deref_slt {s : S} : derefW s (.slt nm ws) = some (.slt nm ws) := rfl
end
end Z
set_option linter.all false
set_option Elab.async false
set_option maxRecDepth 100000
set_option linter.all false
set_option Elab.async false
set_option maxRecDepth 100000
set_option linter.all false
set_option Elab.async false
set_option maxRecDepth 100000
namespace Z
open PySem PySem.Spec PyProof.Rows L2
def Sk (i : Int) : Prop := i.natAbs.log2 < 1920
noncomputable instance (i : Int) : Decidable (Sk i) := Classical.propDecidable _
def Mk6 (i : Int) : Prop := 0 ≤ i ∧ i < 1000000
noncomputable instance (i : Int) : Decidable (Mk6 i) := Classical.propDecidable _
def Jk (n : Nat) : Prop := n ≤ 16777216
noncomputable instance (n : Nat) : Decidable (Jk n) := Classical.propDecidable _
def mJs : List (Mo RV) → Str → Mo RV
  | [], acc => ret (.val (.str acc))
  | m :: ms, acc => bnd m fun x => match x with
    | .val (.str y) => if (acc ++ y).length ≤ sz then mJs ms (acc ++ y) else stk
    | _ => stk
section
variable {X : Cx} {K : PySem.W.Frag} {mg : Str → Option Value} {ea : EA} {Wx : WX} {ws : List W} {vs : List V}
structure Pej (X : Cx) (ea : EA) (Wx : WX) (es : List Expr) (ms : List (Mo RV)) : Prop where
  ex : ∃ ts, PJ X es ts ∧ ∀ acc, RefE X.K X.mg ea Wx (fun σ H Q => tJs ts acc σ H fun out H1 => Q (.str out) H1) (mJs ms acc)
end
end Z
set_option linter.all false
set_option Elab.async false
set_option maxRecDepth 100000
namespace Z
open PySem PySem.Spec PyProof.Rows L2
section
variable {r : List SV} {G : List Cell} {m mo me : Mo RV} {ms : List (Mo RV)} {acc a x : Str} {b : Array UInt8} {i : Int} {nm : Str} {w : W} {ws : List W} {f : Str → W → Option OR} {mf : Fn}
@[simp] theorem mJs_nil : mJs [] acc ⟨r, G⟩ = some (.ok (.val (.str acc)), ⟨r, G⟩) := rfl
@[simp] theorem mJs_cons : mJs (m :: ms) acc ⟨r, G⟩ = bnd m (fun x => match x with
    | .val (.str y) => if (acc ++ y).length ≤ sz then mJs ms (acc ++ y) else stk
    | _ => stk) ⟨r, G⟩ := rfl
@[simp] theorem freeze_slt : freeze (.val (.slt nm ws)) ⟨r, G⟩ = some (.ok (.slt nm ws), ⟨r, G⟩) := rfl
end
end Z
set_option linter.all false
set_option Elab.async false
set_option maxRecDepth 100000
namespace Z
open PySem PySem.Spec PyProof.Rows L2
def cod (x : Str) : List Nat := x.cps.toList
theorem cod_app (x y : Str) : cod (x ++ y) = cod x ++ cod y := W.KT.app_list x y
def dgs (n : Nat) : List Nat := (Nat.toDigits 10 n).map Char.toNat
theorem dgs_le {k n : Nat} (hk : 1 ≤ k) (hn : n < 10 ^ k) : (dgs n).length ≤ k := by
  unfold dgs
  rw [List.length_map]
  exact digits10_le hk hn
def zT (k n : Nat) : Str := ⟨(List.replicate (k - (dgs n).length) 48 ++ dgs n).toArray⟩
theorem cod_z (k n : Nat) : cod (zT k n) = List.replicate (k - (dgs n).length) 48 ++ dgs n := rfl
theorem z_len {k n : Nat} (hk : 1 ≤ k) (hn : n < 10 ^ k) : (cod (zT k n)).length = k := by
  have := dgs_le hk hn
  rw [cod_z, List.length_append, List.length_replicate]
  omega
def dig (x : Str) : Prop := ∀ c ∈ cod x, 48 ≤ c ∧ c ≤ 57
theorem dig.app {x y : Str} (h : dig x) (k : dig y) : dig (x ++ y) := fun c m => by
  rw [cod_app] at m
  exact (List.mem_append.mp m).elim (h c) (k c)
end Z
set_option linter.all false
set_option Elab.async false
set_option maxRecDepth 100000
set_option linter.all false
set_option Elab.async false
set_option maxRecDepth 100000
set_option linter.all false
set_option Elab.async false
set_option maxRecDepth 100000
namespace Z
open PySem PySem.Spec PyProof.Rows L2
def mPar2 (i j : Nat) (ms : Mo (List RV)) : Mo Fl := bnd ms fun xs => bnd (freezeAll xs) fun ws s => match ws with
  | [a, b] => some (.ok .nx, { s with r := (s.r.set i (.val a)).set j (.val b) })
  | _ => none
section
variable {K : PySem.W.Frag} {mg : Str → Option Value} {ea : EA} {Wx : WX} {ta : TA} {ms : Mo (List RV)} {i j l : Nat}
theorem ref_par2 (h : RefA K mg ea Wx ta ms) : RefS K mg ea Wx (tPar i j ta) (mPar2 i j ms) := by
  intro σ H io Fr s S0 r0 s' e D hnx hbk hct hrt hex
  refine arg2 h S0 e (fun x q cls d H' io' px => hex x q cls d σ H' io' px) fun xs vs s1 H1 io1 e2 px R1 => ?_
  rcases bnd_some e2 with ⟨x, e3, rfl⟩ | ⟨ws, s2, e3, e4⟩
  · obtain ⟨_, _, _, _, q, _⟩ := freezeAll_ok px.1 R1 e3
    cases q
  · obtain ⟨_, m2, S2, ws', q, r2⟩ := freezeAll_ok px.1 R1 e3
    cases q
    split at e4
    · cases e4
      obtain ⟨v, t1, rfl, r1, r2⟩ := r2.cons_inv
      obtain ⟨w, t2, rfl, r3, r2⟩ := r2.cons_inv
      obtain rfl := r2.nil_inv
      obtain ⟨S3, l3⟩ := S2.setVal (i := i) r1
      obtain ⟨S4, l4⟩ := S3.setVal (i := j) (r3.pers (.less l3))
      exact ⟨v, w, rfl, hnx rfl _ _ _ ⟨S4, px.2.less fun b z => m2 b (l3 b (l4 b z))⟩⟩
    · cases e4
end
section
variable {X : Cx} {ea : EA} {Wx : WX} {x y z : Str} {a b c : Expr} {ms : Mo (List RV)} {px py pz pt pos : Pos} {kt k2 : Nat} {pt2 : Pos}
theorem pes_par2 (i j : Nat) (hN : X.N.Nodup) (ha : Pea X ea Wx [a, b] ms) (hi : X.N[i]? = some x := by rfl) (hj : X.N[j]? = some y := by rfl) (hij : i ≠ j := by decide)
    (hx : X.env.scope.names.lookup x = some .local := by rfl) (hy : X.env.scope.names.lookup y = some .local := by rfl)
    (hw : swappedStores [.Tuple [.Name x px, .Name y py] kt pt] (.Tuple [a, b] k2 pt2) X.env = pure (some [x, y]) := by rfl)
    (hs : swapsWithSole [.Tuple [.Name x px, .Name y py] kt pt] (.Tuple [a, b] k2 pt2) pos.line X.env = pure false := by rfl) (hc : X.calm = true := by rfl) :
    Pes X ea Wx (.Assign [.Tuple [.Name x px, .Name y py] kt pt] (.Tuple [a, b] k2 pt2) pos) (mPar2 i j ms) :=
  let ⟨_, q, r⟩ := ha.ex; ⟨_, ps_par hc hN hi hj hij hx hy q hw hs, ref_par2 r⟩
end
section
variable {r : List SV} {G : List Cell} {ms : Mo (List RV)} {i j l : Nat}
@[simp] theorem mPar2_e : mPar2 i j ms ⟨r, G⟩ = bnd ms (fun xs => bnd (freezeAll xs) fun ws s => match ws with
  | [a, b] => some (.ok .nx, { s with r := (s.r.set i (.val a)).set j (.val b) })
  | _ => none) ⟨r, G⟩ := rfl
end
end Z
set_option linter.all false
set_option Elab.async false
set_option maxRecDepth 100000
namespace Z
open PySem PySem.Spec PyProof.Rows L2
section
variable {X : Cx} {ea : EA} {Wx : WX} {tg ke ve iter : Expr} {ifs : List Expr} {scope : Scope} {own : List (Str × Nat)} {pos : Pos} {mi : Mo Wk} {t : W → Mo Unit} {l : List Nat} {mt : Mo Bool} {mk mv : Mo RV}
structure BlkD2 (X : Cx) (ea : EA) (tg ke ve : Expr) (ifs : List Expr) (tg1 i1 : Expr) (f1 : List Expr) (scope : Scope) (own : List (Str × Nat)) (v0 v1 : List Nat) (t : W → Mo Unit) (l : List Nat) (mt : Mo Bool) (mi1 : Mo Wk) (t1 : W → Mo Unit) (l1 : List Nat) (mt1 : Mo Bool) (mk mv : Mo RV) : Prop where
  ok : BlkOk X.N X.env.scope scope own
  ne : ∀ w s r s', t w s = some (r, s') → r = .ok ()
  ne1 : ∀ w s r s', t1 w s = some (r, s') → r = .ok ()
  sub : ∀ i ∈ l, i ∈ v0
  sub1 : ∀ i ∈ l1, i ∈ v1
  hv : (∀ i ∈ v0, i ∈ own.map (·.2)) ∧ (∀ i ∈ v1 ++ [], i ∈ own.map (·.2)) ∧ (∀ i ∈ v1 ++ [], i ∉ v0)
  tg : ∀ (s : Shared) (H : Hp) (C : Addr) (cl : List (Str × Addr)) (fp : List Addr), Peg (X.blk s H scope (compEnvC scope cl C X.env) fp) ea tg t l
  ts : ∀ (s : Shared) (H : Hp) (C : Addr) (cl : List (Str × Addr)) (fp : List Addr), Pets (X.blk s H scope (compEnvC scope cl C X.env) fp) ea W0 ifs mt
  it1 : ∀ (s : Shared) (H : Hp) (C : Addr) (cl : List (Str × Addr)) (fp : List Addr), Pei (X.blk s H scope (compEnvC scope cl C X.env) fp) ea W0 tg1 i1 mi1
  tg1 : ∀ (s : Shared) (H : Hp) (C : Addr) (cl : List (Str × Addr)) (fp : List Addr), Peg (X.blk s H scope (compEnvC scope cl C X.env) fp) ea tg1 t1 l1
  ts1 : ∀ (s : Shared) (H : Hp) (C : Addr) (cl : List (Str × Addr)) (fp : List Addr), Pets (X.blk s H scope (compEnvC scope cl C X.env) fp) ea W0 f1 mt1
  ky : ∀ (s : Shared) (H : Hp) (C : Addr) (cl : List (Str × Addr)) (fp : List Addr), Pee (X.blk s H scope (compEnvC scope cl C X.env) fp) ea W0 ke mk
  vl : ∀ (s : Shared) (H : Hp) (C : Addr) (cl : List (Str × Addr)) (fp : List Addr), Pee (X.blk s H scope (compEnvC scope cl C X.env) fp) ea W0 ve mv
end
end Z
set_option linter.all false
set_option Elab.async false
set_option maxRecDepth 100000
set_option linter.all false
set_option Elab.async false
set_option maxRecDepth 100000
namespace Z
open PySem PySem.Spec PyProof.Rows L2
def fAddA1 : W → W → Option OR
  | .int i, .int j => some (.imm (.int (i + j)))
  | _, _ => none
@[simp] theorem fAddA1_e {i j : Int} : fAddA1 (.int i) (.int j) = some (.imm (.int (i + j))) := rfl
theorem ipm_add {X : Cx} : IpM X .Add fAddA1 := by
  refine ⟨_, ip_add, fun io M H x y vx vy z Q rx ry e q => ?_⟩
  unfold fAddA1 at e
  split at e
  · cases e
    have := rx.int
    subst this
    have := ry.int
    subst this
    exact ⟨_, _, rfl, rfl, q _ (.int _)⟩
  · cases e
end Z
set_option linter.all false
set_option Elab.async false
set_option maxRecDepth 100000
set_option linter.all false
set_option Elab.async false
set_option maxRecDepth 100000
namespace Z
open PySem PySem.Spec PySem.Calls PyProof.Rows L2
def DiffH (ks : List (List Key)) : Prop := ∀ w : World, (ks.map fun k => reduceHash (Builtin.Tuple.tupleHashOf (k.map (keyH w)))).Nodup
noncomputable instance (ks : List (List Key)) : Decidable (DiffH ks) := Classical.propDecidable _
end Z
set_option linter.all false
set_option Elab.async false
set_option maxRecDepth 100000
namespace Z
open PySem PySem.Spec PyProof.Rows L2
theorem hu2 {n : Nat} (h : n + 150 < cLine) : n + 2 < cLine := by omega
end Z
set_option linter.all false
set_option Elab.async false
set_option maxRecDepth 100000
set_option linter.all false
set_option Elab.async false
set_option maxRecDepth 100000
namespace Z
open PySem PySem.Spec PyProof.Rows L2
def prV : List V → List (V × V)
  | x :: y :: r => (x, y) :: prV r
  | _ => []
structure Pep (X : Cx) (ea : EA) (pos : Pos) (keys : List (Option Expr)) (values : List Expr) (ms : Mo (List RV)) : Prop where
  ex : ∃ (trs : List (TE × TE)) (ta : TA), PPs X pos keys values trs ∧ RefA X.K X.mg ea W0 ta ms ∧ ∀ (σ : L2.St) (H : Hp) (Q : List (V × V) → Hp → Prop), tPairs trs σ H Q = ta σ H fun vs H' => Q (prV vs) H'
end Z
set_option linter.all false
set_option Elab.async false
set_option maxRecDepth 100000
set_option linter.all false
set_option Elab.async false
set_option maxRecDepth 100000
set_option linter.all false
set_option Elab.async false
set_option maxRecDepth 100000
namespace Z
open PySem PySem.Spec PyProof.Rows L2
structure SupF (X : Cx) (D : Addr) : Prop where
  ks : X.env.kindOf "super" = some .globalImplicit
  kc : X.env.kindOf "__class__" = some .free
  ka : X.env.scope.names.lookup ("self" : Str) = some .local
  n0 : X.N[0]? = some ("self" : Str)
  fn : ∃ f oc od fd osl ar, X.env.func = some f ∧ X.K.lookup f = some ⟨oc, od, .func fd, osl⟩ ∧ (fd.params.posonlyargs ++ fd.params.args).head? = some ar ∧ ar.arg = ("self" : Str)
  code : ∃ cda ccl cdd vs ccs file tf, X.env.code = .ref cda ∧ X.K.lookup cda = some ⟨ccl, cdd, .fields vs, ccs⟩ ∧ vs[2]? = some (.str file tf) ∧ ((X.prog.main.file : Str) == file) = true
  top : (X.prog.main.scope.names.lookup ("super" : Str)).isSome = false
  mg : X.mg "super" = none
  cell : ∃ cc cl cld csl, X.env.cells.lookup ("__class__" : Str) = some cc ∧ X.K.lookup cc = some ⟨cl, cld, .cell (some (.ref D)), csl⟩
structure SupC (K : PySem.W.Frag) (C D g : Addr) (m : Str) : Prop where
  d : ∃ cdD, PySem.W.clsIn K D = some cdD
  sub : PySem.W.mroIn K C (.ref D) = some true
  any : PySem.W.nsIn K cStatics "thirdparty.any" = some none
  at_ : PySem.W.ks_superIn K C D m = some (some (.ref g))
  ty : PySem.W.typeIn K (.ref g) = some (.type "function")
  fi : PySem.W.fnIn K g = true
  nm : (m == ("__class__" : Str)) = false
end Z
set_option linter.all false
set_option Elab.async false
set_option maxRecDepth 100000
namespace Z
open PySem PySem.Spec PyProof.Rows L2
structure ScS (N P : List Str) (sc : Scope) : Prop where
  kind : sc.kind = .function
  co : sc.isCoroutine = false
  gen : sc.isGenerator = false
  nd : N.Nodup
  pre : N.take P.length = P
  par : ∀ x ∈ P, sc.names.lookup x = some .local
  nocell : ∀ y ∈ sc.names, y.2 ≠ .cell
  free : ∀ y ∈ sc.names, y.2 = .free → y.1 = ("__class__" : Str)
end Z
set_option linter.all false
set_option Elab.async false
set_option maxRecDepth 100000
set_option linter.all false
set_option Elab.async false
set_option maxRecDepth 100000
namespace Z
open PySem PySem.Spec PyProof.Rows L2
structure SupK (P : Program) (K : PySem.W.Frag) (mg : Str → Option Value) (x qual : Str) (st : Stmt) (f C g : Addr) (fd : FuncData) (m : Str) : Prop where
  ex : ∃ (cc : Addr) (cl : Value) (cld : Option Addr) (csl : Array (Option Value)) (oc : Value) (od an : Option Addr) (dV kV doc pm ct : Value) (cda : Addr) (osl : Array (Option Value)) (ccl : Value) (cdd : Option Addr) (vs : Array Value) (ccs : Array (Option Value)) (file : Str) (tf : Tok),
    fd = PySem.W.ksFn x qual (defArgs st) (defBody st) (defScope st) dV kV doc pm an (.ref cda) ct cc ∧ K.lookup f = some ⟨oc, od, .func fd, osl⟩ ∧ PySem.W.codeIn K (.ref cda) qual = true ∧ K.lookup cc = some ⟨cl, cld, .cell (some (.ref C)), csl⟩ ∧
      K.lookup cda = some ⟨ccl, cdd, .fields vs, ccs⟩ ∧ vs[2]? = some (.str file tf) ∧ ((P.main.file : Str) == file) = true
  top : (P.main.scope.names.lookup ("super" : Str)).isSome = false
  mgs : mg "super" = none
  sc : SupC K C C g m
structure SupN (N : List Str) (st : Stmt) : Prop where
  ks : (defScope st).names.lookup ("super" : Str) = some .globalImplicit
  kc : (defScope st).names.lookup ("__class__" : Str) = some .free
  ka : (defScope st).names.lookup ("self" : Str) = some .local
  n0 : N[0]? = some ("self" : Str)
  hd : ∃ ar, ((defArgs st).posonlyargs ++ (defArgs st).args).head? = some ar ∧ ar.arg = ("self" : Str)
end Z
set_option linter.all false
set_option Elab.async false
set_option maxRecDepth 100000
namespace Z
open PySem PySem.Spec PyProof.Rows L2
section
variable {K : PySem.W.Frag} {mg : Str → Option Value} {ea : EA} {io : List Addr} {Fr : Addr → Prop} {s s' s1 : S} {σ σ' : L2.St} {H H' H1 : Hp} {Wx : WX}
theorem Sim.more (x : Sim K mg ea io Fr s σ H) (k : ∀ a o, H a = some o → H' a = some o) : Sim K mg ea io Fr s σ H' ∧ Stp io (Ms io Fr s σ) Fr H io (Ms io Fr s σ) H' := by
  have same : ∀ a, Ms io Fr s σ a → H' a = H a := fun a z => by
    obtain ⟨o, e⟩ := x.trk z
    rw [k a o e, e]
  have p : Pers io (Ms io Fr s σ) H io (Ms io Fr s σ) H' := ⟨fun a o e _ => k a o e, fun a z => .inl z, fun _ _ e => e⟩
  refine ⟨x.move p same (fun a z h => x.g.dj a h (.inl z)) (fun a i c z h1 h2 => ?_) fun a z => ?_, p, fun a z => same a (.inr (.inl z)), fun a o e => ⟨o, k a o e⟩⟩
  · obtain ⟨b, o, q1, _, _, q4⟩ := x.own i c h1
    rw [h2] at q1
    cases q1
    exact q4 z
  · obtain ⟨o, e, n⟩ := x.g.fr a (.inl z)
    exact ⟨o, k a o e, n⟩
end
end Z
set_option linter.all false
set_option Elab.async false
set_option maxRecDepth 100000
namespace Z
open PySem PySem.Spec PyProof.Rows L2
def refsZ (o : Obj) : List Addr := match o.data with
  | .seq its _ => its.toList.flatMap He.refV
  | .dict es _ => es.toList.flatMap fun e => He.refV e.val
  | .func fd => He.refV fd.code ++ (He.refV fd.defaults ++ fd.closure.map (·.2))
  | .cls cd => [cd.ns]
  | .fields vs => (match o.cls with
    | .type c => if c = "property" ∨ c = "classmethod" then vs.toList.flatMap He.refV else []
    | _ => [])
  | _ => []
def refsG (g : Addr → Option Obj) (a : Addr) : List Addr := match g a with
  | some o => refsZ o
  | none => []
def newZ : List Addr → Nat → List Addr × Nat
  | [], s => ([], s)
  | a :: r, s => bif s.testBit a then newZ r s else match newZ r (s ||| 2 ^ a) with
    | (l, s') => (a :: l, s')
def bfsZ (g : Addr → Option Obj) : Nat → List Addr → Nat → List Addr
  | 0, fr, _ => fr
  | n + 1, fr, s => match newZ (fr.flatMap (refsG g)) s with
    | (l, s') => fr ++ bfsZ g n l s'
def asZ (g : Addr → Option Obj) (n : Nat) : List Addr := bfsZ g n [mainGlobals, cStatics] (2 ^ mainGlobals ||| 2 ^ cStatics)
theorem ck_at {l : List Bool} (h : (l.all fun b => b) = true) (i : Nat) {b : Bool} (e : l[i]? = some b) : b = true := List.all_eq_true.mp h b (List.mem_of_getElem? e)
theorem ck_d {l : List Bool} {p : Prop} [Decidable p] (h : (l.all fun b => b) = true) (i : Nat) (e : l[i]? = some (decide p)) : p := of_decide_eq_true (ck_at h i e)
def intB (K : PySem.W.Frag) (x : Str) (i : Int) : Bool := match PySem.W.nsIn K mainGlobals x with
  | some (some (.int j _)) => decide (j = i)
  | _ => false
theorem intB_ok {K : PySem.W.Frag} {x : Str} {i : Int} (h : intB K x i = true) : ∃ tk, PySem.W.nsIn K mainGlobals x = some (some (.int i tk)) := by
  unfold intB at h
  split at h
  · rename_i j tk e
    have := of_decide_eq_true h
    subst this
    exact ⟨tk, e⟩
  · cases h
def excB (K : PySem.W.Frag) (C : Addr) (bm : List Value) (nid : String) : Bool := match K.lookup C with
  | some ⟨.type t, _, .cls cd, sl⟩ => decide (t = "type") && (decide (cd.mro = .ref C :: bm) && (cd.hasDict && (!cd.hasDel && match sl.toList with
    | [_, _, _, _, some (.builtin b), _] => decide (b = nid)
    | _ => false)))
  | _ => false
theorem excB_ok {K : PySem.W.Frag} {C : Addr} {bm : List Value} {nid : String} (h : excB K C bm nid = true) : ∃ nm qq N bs sn sb ab co dd m0 m1 m2 m3 m5, K.lookup C = some (excClassObj nm qq C N bs bm true sn sb ab co dd m0 m1 m2 m3 m5 nid) := by
  unfold excB at h
  split at h
  · rename_i t dd cd sl e
    obtain ⟨h1, h⟩ := He.ba h
    obtain ⟨h2, h⟩ := He.ba h
    obtain ⟨h3, h⟩ := He.ba h
    obtain ⟨h4, h⟩ := He.ba h
    have h1 := of_decide_eq_true h1
    have h2 := of_decide_eq_true h2
    split at h
    · rename_i m0 m1 m2 m3 b m5 es
      have h5 := of_decide_eq_true h
      obtain ⟨nm, bs, mro, N, qq, hd, sn, sb, ab, co, hdel⟩ := cd
      simp only at h2 h3 h4
      have h4' : hdel = false := by simpa using h4
      subst h1 h2 h3 h4' h5
      have esl : sl = #[m0, m1, m2, m3, some (.builtin b), m5] := by
        apply Array.ext'
        rw [es]
      subst esl
      exact ⟨nm, qq, N, bs, sn, sb, ab, co, dd, m0, m1, m2, m3, m5, e⟩
    · cases h
  · cases h
abbrev FnZ : Type := Option (Str × Str × Arguments × FuncBody × Scope)
def fnO (K : PySem.W.Frag) (f : Addr) : FnZ := match K.lookup f with
  | some ⟨_, _, .func fd, _⟩ => some (fd.name, fd.qualname, fd.params, fd.body, fd.scope)
  | _ => none
def fnB (K : PySem.W.Frag) (f : Addr) (q : Str) : Bool := match K.lookup f with
  | some ⟨_, _, .func fd, _⟩ => Nat.beq fd.globals mainGlobals && (fd.closure.isEmpty && ((match fd.defaults with
    | .none => true
    | _ => false) && (Nat.beq fd.builtins builtinsNs && PySem.W.codeIn K fd.code q)))
  | _ => false
theorem fn_okZ {K : PySem.W.Frag} {f : Addr} {n q : Str} {ps : Arguments} {b : List Stmt} {sc : Scope} (e : fnO K f = some (n, q, ps, .stmts b, sc)) (c : fnB K f q = true) :
    ∃ oc od osl kV doc pm an cdv ct, K.lookup f = some ⟨oc, od, .func (PySem.W.fnOf n q ps b sc .none kV doc pm an cdv ct), osl⟩ ∧ PySem.W.codeIn K cdv q = true := by
  unfold fnO at e
  unfold fnB at c
  split at c
  · rename_i oc od fd osl el
    rw [el] at e
    obtain ⟨n1, n2, n3, n4, n5, n6, n7, n8, n9, n10, n11, n12, n13, n14, n15⟩ := fd
    have e2 : (some (n1, n2, n3, n4, n5) : FnZ) = some (n, q, ps, .stmts b, sc) := e
    simp only [Option.some.injEq, Prod.mk.injEq] at e2
    obtain ⟨h1, h2, h3, h4, h5⟩ := e2
    obtain ⟨c1, c⟩ := He.ba c
    obtain ⟨c2, c⟩ := He.ba c
    obtain ⟨c3, c⟩ := He.ba c
    obtain ⟨c4, c5⟩ := He.ba c
    have g1 : n6 = mainGlobals := Nat.eq_of_beq_eq_true c1
    have g2 : n7 = [] := by
      have : n7.isEmpty = true := c2
      simpa using this
    have g4 : n15 = builtinsNs := Nat.eq_of_beq_eq_true c4
    have g3 : n8 = .none := by cases n8 <;> first | rfl | cases c3
    clear c1 c2 c3 c4
    subst h1 h2 h3 h4 h5 g1 g2 g3 g4
    exact ⟨oc, od, osl, n9, n10, n11, n12, n13, n14, el, c5⟩
  · cases c
def obsZ (n : Nat) (chk : PySem.W.Frag → Bool) (fn : List (PySem.W.Frag → Addr)) (g : Addr → Option Obj) : Bool × List FnZ := (chk (He.frG g (asZ g n)), fn.map fun f => fnO (He.frG g (asZ g n)) (f (He.frG g (asZ g n))))
def SaysZ (chk : PySem.W.Frag → Bool) (fn : List (PySem.W.Frag → Addr)) (vs : List FnZ) (K : PySem.W.Frag) : Prop := chk K = true ∧ (fn.map fun f => fnO K (f K)) = vs
def hookZ (n : Nat) (chk : PySem.W.Frag → Bool) (fn : List (PySem.W.Frag → Addr)) (vs : List FnZ) : PySem.W.Hook where
  α := Bool × List FnZ
  obs := fun s => obsZ n chk fn s.heap.get?
  val := fun _ => (true, vs)
  says := fun _ h => ∃ K : PySem.W.Frag, K.In h ∧ SaysZ chk fn vs K
  of := fun _ _ e => ⟨_, He.frG_in, congrArg (·.1) e, congrArg (·.2) e⟩
  keeps := fun _ _ _ ⟨K, hK, c⟩ k => ⟨K, PySem.W.Frag.In.keeps hK k, c⟩
theorem obsZ_eq {n : Nat} {chk : PySem.W.Frag → Bool} {fn : List (PySem.W.Frag → Addr)} {vs : List FnZ} {g : Addr → Option Obj} {s : Shared} (h : ∀ a, g a = s.heap.get? a) : obsZ n chk fn g = (hookZ n chk fn vs).obs s := by
  have e : g = s.heap.get? := funext h
  rw [e]
  rfl
theorem SaysZ.fn_ {chk : PySem.W.Frag → Bool} {fn : List (PySem.W.Frag → Addr)} {vs : List FnZ} {K : PySem.W.Frag} (c : SaysZ chk fn vs K) (i : Nat) {f : PySem.W.Frag → Addr} {v : FnZ} (h : fn[i]? = some f) (hv : vs[i]? = some v) : fnO K (f K) = v := by
  have e := congrArg (fun l => l[i]?) c.2
  simp only [List.getElem?_map, h, hv, Option.map_some] at e
  exact Option.some.inj e
theorem walkE {l : PySem.W.OpenLaw} {q : Program} {loose : List Str} {XP : (Str → Option Value) → Heap → Prop} {YP : World → Heap → Prop} {d : DefRec} {k : Nat} {x : Str} (hn : l.most = some 63) (hdf : d.params.defaults = []) (hr : Room k callerA)
    (F : ∀ (w : World) (mg : Str → Option Value) (fa : Addr) (h : Heap), YP w h → h.Ns mainGlobals mg → mg d.name = some (.ref fa) →
      ∃ K : PySem.W.Frag, K.In h ∧ ∃ fd : FuncData, (∀ (s : Shared) (u : Value), BindsTo s fd ⟨[u], []⟩ [(x, u)]) ∧ ∀ base : Heap, K.In base → base.Ns mainGlobals mg → FnOk l.prog w K mg base (L2.CX l.prog w) k fa fd [x] (spLaw K)) :
    PySem.W.WalkO q loose XP YP l.row.toRowW d [] (fun f vs => PySem.call f vs) := by
  refine Att.attach_callB hn hdf fun w s₀ s₁ mg mb fa o pm cd doc a vs ns G Y ho hd hcd hmg hobj hints hlen hbits hg => ?_
  obtain ⟨K, KX, fd, hb, hF⟩ := F w mg fa _ Y G.T.g hmg
  exact law_call KX G.T.g G.T.b G.T.builtins G.T.nolimit hg hobj hints (Nat.le_trans hlen (by decide)) hr hF hb (fun H hO hS => ⟨a, ns, rfl, hS, hlen, hbits, fun _ => rfl⟩) fun H e s' z => by
    obtain ⟨_, _, _, _, _, _, _, _, _, _, _, _, hE⟩ := z
    exact hE
end Z
set_option linter.all false
set_option Elab.async false
set_option maxRecDepth 100000
namespace Z
open PySem PySem.Spec PyProof.Rows L2 GenW
section
variable {X : Cx} {st : Stmt} {rest : List Stmt}
def tGIf (c : TT) (tb to : TGn) : TGn := fun D ys σ H => c σ H fun b H1 => if b = true then tb D ys σ H1 else to D ys σ H1
theorem gs_if {test : Expr} {body orelse : List Stmt} {pos : Pos} {tc : TT} {tb to : TGn} (hc : PT X test tc) (hb : GSs X body tb) (ho : GSs X orelse to) : GS X (.If test body orelse pos) (tGIf tc tb to) := by
  refine ⟨fun A S ip R n ys s₀ c fs K J gd lv s σ H D g hn k hI ht => ?_⟩
  obtain ⟨acc, cc, r, I⟩ := hI
  rw [exec_If]
  show Seg _ A R (GY X S) n s₀ c (.at pos fun _ => ((isTrue test X.env (eval test X.env)) >>= fun b => if b = true then execs body X.env else execs orelse X.env).wrap K J gd lv) fs s
  refine seg_at ?_
  rw [Sem.bind_eq_wrap', Sem.wrap_wrap]
  refine seg_wrap ?_
  rw [g.over]
  refine wpAny_mono (hc.run _ s σ H _ I ht) (fun b s' hb' => ?_) fun x s' hx => k.exc n s₀ x s' hx
  obtain ⟨H2, I2, q2⟩ := hb'
  cases b with
  | true =>
    rw [if_pos rfl] at q2
    show Seg _ A R (GY X S) n s₀ c (Sem.wrap _ _ _ _ (if true = true then _ else _)) fs s'
    rw [if_pos rfl]
    exact hb.run A S ip R n ys s₀ c fs K J gd lv s' σ H2 D g hn k ⟨acc, cc, r, I2⟩ q2
  | false =>
    rw [if_neg Bool.false_ne_true] at q2
    show Seg _ A R (GY X S) n s₀ c (Sem.wrap _ _ _ _ (if false = true then _ else _)) fs s'
    rw [if_neg Bool.false_ne_true]
    exact ho.run A S ip R n ys s₀ c fs K J gd lv s' σ H2 D g hn k ⟨acc, cc, r, I2⟩ q2
end
section
variable {M : Model} {A : Around} {R : GenEnd} {Y : Protocol} {n : Nat} {s₀ : Shared} {c : Code} {fs : List Frame} {s : Shared} {env : Env}
  {K : Flow → Sem PySem.Fin} {H : Value → Sem PySem.Fin} {gd : Bool → Bool} {lv : List Value → List Value}
theorem seg_For {target iter : Expr} {body orelse : List Stmt} {pos : Pos}
    (h : wpAny M (A.over c fs) (eval iter env) (fun x s1 => wpAny M (A.over c fs) (pyIter x) (fun it s2 => ∀ (p : Pos) (lv' : List Value → List Value), Seg M A R Y n s₀ (.forLoop target it body orelse env) (M.den (.forLoop target it body orelse env))
      (.ret (fun r => ((match r with | .ok f => (.pure f : Sem Flow) | .error e => .raise e).onRaise fun (x : Value) => do
        if (← field x 1) == Value.none then unsupported "frame.own-activation:exception-without-traceback"
        setFlight x env.frame).wrap K H gd lv) none (gd false) (lv' []) c p [] :: fs) s2) (fun x s' => Seg M A R Y n s₀ c (H x) fs s') s1) (fun x s' => Seg M A R Y n s₀ c (H x) fs s') s)
    (hs : ∀ x, foldedSetIterable iter env x = pure x := by intro _; rfl) :
    Seg M A R Y n s₀ c ((exec (.For target iter body orelse pos) env).wrap K H gd lv) fs s := by
  rw [exec_For]
  refine seg_at ?_
  show Seg M A R Y n s₀ c ((eval iter env >>= fun v => foldedSetIterable iter env v >>= fun x => standAt iter.pos >>= fun _ => holding [x] (pyIter x) >>= fun it => runOwn (.forLoop target it body orelse env) env).wrap K H gd lv) fs s
  rw [Sem.bind_eq_wrap', Sem.wrap_wrap]
  refine seg_wrap (wpAny_mono h (fun x s1 h1 => ?_) fun x s' hx => hx)
  rw [hs x]
  show Seg M A R Y n s₀ c (.at iter.pos fun _ => (holding [x] (pyIter x) >>= fun it => runOwn (.forLoop target it body orelse env) env).wrap K H _ _) fs s1
  refine seg_at ?_
  rw [Sem.bind_eq_wrap', Sem.wrap_wrap]
  refine seg_wrap (wpAny_holding (wpAny_mono h1 (fun it s2 h2 => ?_) fun x s' hx => hx))
  exact seg_call fun p => h2 p _
end
section
variable {prog : Program} {w : World} {A : Around} {R : GenEnd} {Y : Protocol} {n : Nat} {s₀ : Shared} {fs : List Frame} {s : Shared} {env : Env}
abbrev notesZ (env : Env) (e : Value) : Sem PySem.Fin := (do noteFrame e env; theTreesLotGoes e : Sem Unit).wrap (fun _ => .raise e) .raise id id
theorem seg_forLoop {target : Expr} {it : Value} {body : List Stmt}
    (h : wpAny (model prog w) (A.over (.forLoop target it body [] env) fs) (pyNext it) (fun r s' => match r with
        | none => Seg (model prog w) A R Y n s₀ (.forLoop target it body [] env) (.pure (.again (.block [] env))) fs s'
        | some v => wpAny (model prog w) (A.over (.forLoop target it body [] env) fs) (letOwnedTupleGo target it v) (fun _ s1 => wpAny (model prog w) (A.over (.forLoop target it body [] env) fs) (assign target env v) (fun _ s2 =>
            Seg (model prog w) A R Y n s₀ (.forLoop target it body [] env) ((execs body env).wrap (fun f => match f with
              | .next | .cont => .pure (.again (.forLoop target it body [] env))
              | .brk => .pure (.done .next)
              | .ret v => .pure (.done (.ret v))) (notesZ env) id id) fs s2)
            (fun x s' => Seg (model prog w) A R Y n s₀ (.forLoop target it body [] env) (notesZ env x) fs s') s1)
            (fun x s' => Seg (model prog w) A R Y n s₀ (.forLoop target it body [] env) (notesZ env x) fs s') s')
      (fun x s' => Seg (model prog w) A R Y n s₀ (.forLoop target it body [] env) (notesZ env x) fs s') s) :
    Seg (model prog w) A R Y n s₀ (.forLoop target it body [] env) ((model prog w).den (.forLoop target it body [] env)) fs s := by
  show Seg _ A R Y n s₀ _ ((forTurn target it body [] env).onRaise (fun x => do noteFrame x env; theTreesLotGoes x)) fs s
  unfold forTurn
  rw [Sem.onRaise_eq_wrap]
  show Seg _ A R Y n s₀ _ (.at target.pos fun _ => (((pyNext it).onRaise (fun _ => standAt { target.pos with line := 0 })) >>= fun r => match r with
    | none => again (.block [] env)
    | some v => letOwnedTupleGo target it v >>= fun _ => assign target env v >>= fun _ => execs body env >>= fun f => match f with
      | .next | .cont => again (.forLoop target it body [] env)
      | .brk => pure (.done .next)
      | .ret v => pure (.done (.ret v))).wrap _ _ _ _) fs s
  refine seg_at ?_
  have exc : ∀ (x : Value) (s' : Shared), Seg (model prog w) A R Y n s₀ (.forLoop target it body [] env) (notesZ env x) fs s' → Seg (model prog w) A R Y n s₀ (.forLoop target it body [] env) ((do noteFrame x env; theTreesLotGoes x : Sem Unit).bind fun _ => .raise x) fs s' := fun x s' hx => by
    rw [Sem.bind_eq_wrap]
    exact hx
  rw [Sem.bind_eq_wrap', Sem.wrap_wrap]
  refine seg_wrap (wpAny_onRaise (wpAny_mono h (fun r s' h' => ?_) fun x s' hx => wpAny_standAt (exc x s' hx)))
  cases r with
  | none => exact h'
  | some v =>
    show Seg _ A R Y n s₀ _ (Sem.wrap _ _ _ _ (letOwnedTupleGo target it v >>= fun _ => assign target env v >>= fun _ => execs body env >>= fun f => match f with
      | .next | .cont => again (.forLoop target it body [] env)
      | .brk => pure (.done .next)
      | .ret v => pure (.done (.ret v)))) fs s'
    rw [Sem.bind_eq_wrap', Sem.wrap_wrap]
    refine seg_wrap (wpAny_mono h' (fun _ s1 h1 => ?_) fun x s' hx => exc x s' hx)
    show Seg _ A R Y n s₀ _ (Sem.wrap _ _ _ _ (assign target env v >>= fun _ => execs body env >>= fun f => match f with
      | .next | .cont => again (.forLoop target it body [] env)
      | .brk => pure (.done .next)
      | .ret v => pure (.done (.ret v)))) fs s1
    rw [Sem.bind_eq_wrap', Sem.wrap_wrap]
    refine seg_wrap (wpAny_mono h1 (fun _ s2 h2 => ?_) fun x s' hx => exc x s' hx)
    show Seg _ A R Y n s₀ _ (Sem.wrap _ _ _ _ (execs body env >>= fun f => match f with
      | .next | .cont => again (.forLoop target it body [] env)
      | .brk => pure (.done .next)
      | .ret v => pure (.done (.ret v)))) fs s2
    rw [Sem.bind_eq_wrap', Sem.wrap_wrap]
    rw [Sem.wrap_congr (execs body env) _ _ (K' := fun f => match f with
            | .next | .cont => .pure (.again (.forLoop target it body [] env))
            | .brk => .pure (.done .next)
            | .ret v => .pure (.done (.ret v))) (H' := notesZ env)
        (fun f => by cases f <;> rfl)
        (fun e => by first | exact Sem.bind_eq_wrap _ _ | (show (do noteFrame e env; theTreesLotGoes e : Sem Unit).bind (fun _ => .raise e) = _; rw [Sem.bind_eq_wrap]))]
    exact h2
end
section
variable {X : Cx}
def tGFor (wi : TI) (g : TG) (tb : TGn) : TGn := fun D ys σ H => wi σ H fun J H1 => ∃ W : Nat → Nat → List V → L2.St → Hp → Prop, (∃ m, W 0 m ys σ H1) ∧ ∀ i m ys σ H, W i m ys σ H →
  (J.stop i H ∧ D.nx ys σ H) ∨ (J.go i H ∧ ∃ N : List V → L2.St → Hp → Prop, (∀ ys' σ' H', N ys' σ' H' → ∃ m', m' < m ∧ W (i + 1) m' ys' σ' H') ∧ ∀ x H', J.yld i H x H' → g x σ H' fun σ2 H2 => tb { D with nx := N, ct := N, bk := D.nx } ys σ2 H2)
theorem gs_for {tg iter : Expr} {body : List Stmt} {wi : TI} {g : TG} {tb : TGn} {pos : Pos} (hp : PassesOwn (model X.prog X.w) X.A X.env X.xe) (hc : X.calm = true) (hi : PI X tg iter wi) (hg : PG X tg g) (hb : GSs X body tb)
    (hs : ∀ x, foldedSetIterable iter X.env x = pure x := by intro _; rfl) : GS X (.For tg iter body [] pos) (tGFor wi g tb) := by
  refine ⟨fun A S ip R n ys s₀ c fs K J gd lv s σ H D gc hn k hI ht => ?_⟩
  obtain ⟨acc, cc, r, I⟩ := hI
  refine seg_For ?_ hs
  rw [gc.over]
  refine wpAny_mono (hi.run _ s σ H _ I ht) (fun v s1 h1 => wpAny_mono h1 (fun itv s2 h2 => ?_) fun x s' hx => k.exc n s₀ x s' hx) fun x s' hx => k.exc n s₀ x s' hx
  obtain ⟨it, fp, tn, Jt, H2, rfl, I2, T, st2, f2, W, ⟨m0, w0⟩, turn⟩ := h2
  intro p lv'
  have gl := fun (kk : Result → Sem PySem.Fin) => gc_loop (k := kk) (c' := .forLoop tg (.ref it) body [] X.env) (l := lv' []) (kp := []) (p := p) gc rfl rfl
  have fpS : ∀ b ∈ fp, b ≠ S := fun b hb z => (f2 b hb).2.2.2.2.2 (S, lstObj acc cc) (List.mem_append_right _ List.mem_cons_self) z.symm
  have stat : ∀ {H' : Hp} {acc' : Array Value} {cc' : Nat}, (∀ b ∈ fp, H' b = none) → ∀ b ∈ fp, FpOk X ((S, lstObj acc' cc') :: ip) H' b := fun {H' acc' cc'} hn b hb => by
    obtain ⟨_, q1, q2, q3, q4, q5⟩ := f2 b hb
    refine ⟨hn b hb, q1, q2, q3, q4, fun z hz => ?_⟩
    rcases List.mem_append.mp hz with hz | hz
    · exact q5 z (List.mem_append_left _ hz)
    · rcases List.mem_cons.mp hz with hz | hz
      · rw [hz]; exact fun e => fpS b hb e.symm
      · exact q5 z (List.mem_append_right _ (List.mem_cons_of_mem _ hz))
  have loop : ∀ (m i n : Nat) (ys : List V) (s₀ s : Shared) (σ : L2.St) (H : Hp), n + ys.length = sizeLine → W i m ys σ H → GI X S ip ys σ H s → tn i s.heap → (∀ b ∈ fp, H b = none) →
      Seg (model X.prog X.w) A R (GY X S) n s₀ (.forLoop tg (.ref it) body [] X.env) ((model X.prog X.w).den (.forLoop tg (.ref it) body [] X.env))
        (.ret (fun r => ((match r with | .ok f => (.pure f : Sem Flow) | .error e => .raise e).onRaise (cameBack X.env)).wrap K J gd lv) none (gd false) (lv' []) c p [] :: fs) s := by
    intro m
    induction m using Nat.strongRecOn with
    | ind m ih =>
      intro i n ys s₀ s σ H hn w hI st fr
      have ee : ∀ (n : Nat) (s₀ : Shared) (x : Value) (s' : Shared), X.xe x s' → Seg (model X.prog X.w) A R (GY X S) n s₀ (.forLoop tg (.ref it) body [] X.env)
          (notesZ X.env x)
          (.ret (fun r => ((match r with | .ok f => (.pure f : Sem Flow) | .error e => .raise e).onRaise (cameBack X.env)).wrap K J gd lv) none (gd false) (lv' []) c p [] :: fs) s' := fun n s₀ x s' hx => by
        refine seg_wrap ?_
        rw [(gl _).over]
        refine wpAny_bind (wpAny_mono (hp x s' hx) (fun _ s'' hcb => wpAny_theTreesLotGoes ?_) fun y s'' hcb => ?_)
        · exact seg_leaf (.error x) (seg_cameBack gc k hcb)
        · exact seg_leaf (.error y) (seg_cameBack gc k hcb)
      refine seg_forLoop ?_
      rw [(gl _).over]
      obtain ⟨acc, cc, r, I⟩ := hI
      rcases turn i m ys σ H w with ⟨stop, qn⟩ | ⟨go, N, hN, step⟩
      · refine wpAny_mono (T.done X rfl rfl rfl hc i _ s σ H X.xe I (stat fr) st stop) (fun r1 s4 ⟨hr, I4⟩ => ?_) fun x s' hx => ee n s₀ x s' hx
        subst hr
        refine seg_again rfl ?_
        exact seg_leaf (.ok .next) (k.ok n ys s₀ s4 .next hn ⟨σ, H, ⟨acc, cc, r, I4⟩, qn⟩)
      · refine wpAny_mono (T.item X rfl rfl rfl hc i _ s σ H X.xe I (stat fr) st go) (fun r1 s4 ⟨u, hr, h4⟩ => ?_) fun x s' hx => ee n s₀ x s' hx
        subst hr
        refine wpAny_mono h4 (fun _ s5 ⟨x, H5, I5, r5, y5, st5, fr5⟩ => ?_) fun x s' hx => ee n s₀ x s' hx
        have I5' := I5.pinned (stat fr5) (T.obj _ _ st5)
        refine wpAny_mono (hg.run _ s5 σ H5 x u _ I5' r5 (step x H5 y5)) (fun _ s6 ⟨σ6, H6, I6, q6⟩ => ?_) fun x s' hx => ee n s₀ x s' hx
        have gi6 : GI X S (ip ++ pinsAt fp s5.heap) ys σ6 H6 s6 := ⟨acc, cc, r, I6⟩
        have ipS : ∀ z ∈ ip ++ pinsAt fp s5.heap, z.1 ≠ S := fun z hz => by
          rcases List.mem_append.mp hz with hz | hz
          · exact gc.ip z hz
          · exact fpS _ (of_pinsAt hz).1
        have gcb : ∀ kk : Result → Sem PySem.Fin, GC X S (ip ++ pinsAt fp s5.heap) A (.forLoop tg (.ref it) body [] X.env) (.ret kk none (gd false) (lv' []) c p [] :: fs) id := fun kk =>
          ⟨(gl kk).pn, ipS, (gl kk).apart, (gl kk).over, (gl kk).split, (gl kk).guard, (gl kk).gd⟩
        have unp : ∀ {ys' : List V} {σ7 : L2.St} {H7 : Hp} {s7 : Shared}, GI X S (ip ++ pinsAt fp s5.heap) ys' σ7 H7 s7 → GI X S ip ys' σ7 H7 s7 ∧ tn (i + 1) s7.heap ∧ ∀ b ∈ fp, H7 b = none := fun {ys' σ7 H7 s7} h7 => by
          obtain ⟨acc7, cc7, r7, I7⟩ := h7
          refine ⟨⟨acc7, cc7, r7, I7.pins_of fun z hz => ?_⟩, T.keep _ _ _ st5 fun b hb o e => ?_, fun b hb => ?_⟩
          · rcases List.mem_cons.mp hz with hz | hz
            · exact I7.pin z (List.mem_append_right _ (by rw [hz]; exact List.mem_cons_self))
            · exact I7.pin z (List.mem_append_right _ (List.mem_cons_of_mem _ (List.mem_append_left _ hz)))
          · exact (I7.pin (b, o) (List.mem_append_right _ (List.mem_cons_of_mem _ (List.mem_append_right _ (mem_pinsAt hb e))))).1
          · obtain ⟨o, e, d⟩ := T.obj _ _ st5 b hb
            exact (I7.pin (b, o) (List.mem_append_right _ (List.mem_cons_of_mem _ (List.mem_append_right _ (mem_pinsAt hb e))))).2.1
        refine hb.run A S (ip ++ pinsAt fp s5.heap) R n ys s₀ _ _ _ _ id id s6 σ6 H6 { D with nx := N, ct := N, bk := D.nx } (gcb _) hn ⟨fun n' ys' s₀' s3 f hn' hs => ?_, fun n' s₀' x s3 hx => ee n' s₀' x s3 hx⟩ gi6 q6
        cases f with
        | next =>
          obtain ⟨σ3, H3, I3, n3⟩ := hs
          obtain ⟨m', hm, w3⟩ := hN ys' σ3 H3 n3
          obtain ⟨g3, t3, f3⟩ := unp I3
          exact seg_again rfl (ih m' hm (i + 1) n' ys' s₀' s3 σ3 H3 hn' w3 g3 t3 f3)
        | cont =>
          obtain ⟨σ3, H3, I3, n3⟩ := hs
          obtain ⟨m', hm, w3⟩ := hN ys' σ3 H3 n3
          obtain ⟨g3, t3, f3⟩ := unp I3
          exact seg_again rfl (ih m' hm (i + 1) n' ys' s₀' s3 σ3 H3 hn' w3 g3 t3 f3)
        | brk =>
          obtain ⟨σ3, H3, I3, q3⟩ := hs
          exact seg_leaf (.ok .next) (k.ok n' ys' s₀' s3 .next hn' ⟨σ3, H3, (unp I3).1, q3⟩)
        | ret v =>
          obtain ⟨v3, σ3, H3, I3, r3, q3⟩ := hs
          exact seg_leaf (.ok (.ret v)) (k.ok n' ys' s₀' s3 (.ret v) hn' ⟨v3, σ3, H3, (unp I3).1, r3, q3⟩)
  exact loop m0 0 n ys s₀ s2 σ H2 hn w0 ⟨acc, cc, r, I2⟩ st2 fun b hb => (f2 b hb).1
end
end Z
set_option linter.all false
set_option Elab.async false
set_option maxRecDepth 100000
namespace Z
open PySem PySem.Spec PyProof.Rows L2
inductive GF where
  | nx
  | bk
  | ct
abbrev Gm := List W → S → Option (Except Ex (GF × List W) × S)
def gfD (D : GEnds) : GF → List V → L2.St → Hp → Prop
  | .nx => D.nx
  | .bk => D.bk
  | .ct => D.ct
section
variable {K : PySem.W.Frag} {mg : Str → Option Value} {ea : EA} {io io' : List Addr} {Fr : Addr → Prop} {s s' s1 : S} {σ σ' : L2.St} {H H' H1 : Hp} {Wx : WX}
def RefN (K : PySem.W.Frag) (mg : Str → Option Value) (ea : EA) (Wx : WX) (t : TGn) (m : Gm) : Prop := ∀ (σ : L2.St) (H : Hp) (io : List Addr) (Fr : Addr → Prop) (s : S), Sim K mg ea io Fr s σ H → ∀ (ws : List W) (ys : List V), Rws K mg io (Ms io Fr s σ) H ws ys → ∀ r s', m ws s = some (r, s') → ∀ D : GEnds,
  (∀ f ws', r = .ok (f, ws') → ∀ σ' H' io' ys', PostS K mg ea io Fr s σ H s' σ' io' H' → Rws K mg io' (Ms io' Fr s' σ') H' ws' ys' → gfD D f ys' σ' H') →
  (∀ x, r = .error x → ∀ cls d σ' H' io', PostX K mg ea io Fr s σ H s' σ' io' H' x cls d → Wx cls d σ' H') → t D ys σ H
def mGp (m : Mo Fl) : Gm := fun ws s => match m s with
  | some (.ok .nx, s') => some (.ok (.nx, ws), s')
  | some (.ok .bk, s') => some (.ok (.bk, ws), s')
  | some (.ok .ct, s') => some (.ok (.ct, ws), s')
  | some (.error x, s') => some (.error x, s')
  | _ => none
theorem ref_gp {t : TS} {m : Mo Fl} (h : RefS K mg ea Wx t m) : RefN K mg ea Wx (tPlain t) (mGp m) := by
  intro σ H io Fr s S0 ws ys R r s' e D hok hex
  unfold mGp at e
  cases k : m s with
  | none => rw [k] at e; cases e
  | some pr =>
    obtain ⟨rb, sb⟩ := pr
    rw [k] at e
    refine h σ H io Fr s S0 _ _ k (D.at ys) (fun q σ' H' io' p => ?_) (fun q σ' H' io' p => ?_) (fun q σ' H' io' p => ?_) (fun f q v H' io' p => ?_) fun x q cls d σ' H' io' p => ?_
    · subst q; cases e; exact hok .nx ws rfl σ' H' io' ys p (R.pers p.2.p)
    · subst q; cases e; exact hok .bk ws rfl σ' H' io' ys p (R.pers p.2.p)
    · subst q; cases e; exact hok .ct ws rfl σ' H' io' ys p (R.pers p.2.p)
    · subst q; cases e
    · subst q; cases e; exact hex _ rfl cls d σ' H' io' p
def mGy (m : Mo RV) : Gm := fun ws s => if ws.length < sz then (match (bnd m fun x => freeze (settle x)) s with
  | some (.ok w, s') => some (.ok (.nx, ws ++ [w]), s')
  | some (.error x, s') => some (.error x, s')
  | none => none) else none
theorem ref_gy {te : TE} {m : Mo RV} (h : RefE K mg ea Wx te m) : RefN K mg ea Wx (tGYield te) (mGy m) := by
  intro σ H io Fr s S0 ws ys R r s' e D hok hex
  unfold mGy at e
  split at e
  · rename_i hz
    refine ⟨by rw [sz_eq, ← R.1]; exact hz, ?_⟩
    cases k : (bnd m fun x => freeze (settle x)) s with
    | none => rw [k] at e; cases e
    | some pr =>
      obtain ⟨rb, sb⟩ := pr
      rw [k] at e
      refine one2 h S0 k (fun x q cls d H' io' px => ?_) fun xr v s8 H8 io8 e8 p8 => ?_
      · subst q; cases e
        exact hex x rfl cls d σ H' io' px
      · obtain ⟨S8, T8, R8⟩ := p8.settled
        obtain ⟨_, l9, S9, w', q, R9⟩ := freeze_ok S8 R8 e8
        cases q
        cases e
        exact hok .nx _ rfl σ H8 io8 (ys ++ [v]) ⟨S9, T8.less l9⟩ (((R.pers T8.p).pers (.less l9)).append (Rws.one R9))
  · cases e
def mGnil : Gm := fun ws s => some (.ok (.nx, ws), s)
theorem ref_gnil : RefN K mg ea Wx tG0 mGnil := by
  intro σ H io Fr s S0 ws ys R r s' e D hok hex
  cases e
  exact hok .nx ws rfl σ H io ys ⟨S0, .refl⟩ R
def mGseq (a b : Gm) : Gm := fun ws s => match a ws s with
  | some (.ok (.nx, ws'), s') => b ws' s'
  | some (.ok (.bk, ws'), s') => some (.ok (.bk, ws'), s')
  | some (.ok (.ct, ws'), s') => some (.ok (.ct, ws'), s')
  | some (.error x, s') => some (.error x, s')
  | none => none
theorem ref_gseq {t u : TGn} {a b : Gm} (h : RefN K mg ea Wx t a) (h' : RefN K mg ea Wx u b) : RefN K mg ea Wx (tGThen t u) (mGseq a b) := by
  intro σ H io Fr s S0 ws ys R r s' e D hok hex
  unfold mGseq at e
  cases k : a ws s with
  | none => rw [k] at e; cases e
  | some pr =>
    obtain ⟨rb, sb⟩ := pr
    rw [k] at e
    refine h σ H io Fr s S0 ws ys R _ _ k _ (fun f ws1 q σ1 H1 io1 ys1 px R1 => ?_) fun x q cls d σ' H' io' px => ?_
    · subst q
      cases f with
      | nx =>
        exact h' σ1 H1 io1 Fr sb px.1 ws1 ys1 R1 _ _ e D (fun f ws2 q σ2 H2 io2 ys2 py R2 => hok f ws2 q σ2 H2 io2 ys2 ⟨py.1, px.2.trans py.2⟩ R2) fun x q cls d σ2 H2 io2 py => hex x q cls d σ2 H2 io2 ⟨py.1, px.2.trans py.2.1, py.2.2⟩
      | bk => cases e; exact hok .bk ws1 rfl σ1 H1 io1 ys1 px R1
      | ct => cases e; exact hok .ct ws1 rfl σ1 H1 io1 ys1 px R1
    · subst q; cases e; exact hex x rfl cls d σ' H' io' px
def mGif (c : Mo Bool) (a b : Gm) : Gm := fun ws s => match c s with
  | some (.ok true, s') => a ws s'
  | some (.ok false, s') => b ws s'
  | some (.error x, s') => some (.error x, s')
  | none => none
theorem ref_gif {c : TT} {mc : Mo Bool} {t u : TGn} {a b : Gm} (hc : RefT K mg ea Wx c mc) (h : RefN K mg ea Wx t a) (h' : RefN K mg ea Wx u b) : RefN K mg ea Wx (tGIf c t u) (mGif mc a b) := by
  intro σ H io Fr s S0 ws ys R r s' e D hok hex
  unfold mGif at e
  cases k : mc s with
  | none => rw [k] at e; cases e
  | some pr =>
    obtain ⟨rb, sb⟩ := pr
    rw [k] at e
    refine hc σ H io Fr s S0 _ _ k _ (fun bb q H1 io1 px => ?_) fun x q cls d H' io' px => ?_
    · subst q
      have go : ∀ {t : TGn} {a : Gm}, RefN K mg ea Wx t a → a ws sb = some (r, s') → t D ys σ H1 := fun {t a} h e2 =>
        h σ H1 io1 Fr sb px.1 ws ys (R.pers px.2.p) _ _ e2 D (fun f ws2 q σ2 H2 io2 ys2 py R2 => hok f ws2 q σ2 H2 io2 ys2 ⟨py.1, px.2.trans py.2⟩ R2) fun x q cls d σ2 H2 io2 py => hex x q cls d σ2 H2 io2 ⟨py.1, px.2.trans py.2.1, py.2.2⟩
      cases bb with
      | true => rw [if_pos rfl]; exact go h e
      | false => rw [if_neg Bool.false_ne_true]; exact go h' e
    · subst q; cases e; exact hex x rfl cls d σ H' io' px
noncomputable def forG (k : Wk) : List W → (W → Gm) → Gm
  | [], _ => fun ws s => if k.ok s then some (.ok (.nx, ws), s) else none
  | w :: l, b => fun ws s => if k.ok s then (match b w ws s with
    | some (.ok (.nx, ws'), s') => forG k l b ws' s'
    | some (.ok (.ct, ws'), s') => forG k l b ws' s'
    | some (.ok (.bk, ws'), s') => some (.ok (.nx, ws'), s')
    | some (.error x, s') => some (.error x, s')
    | none => none) else none
def mGt (t : Mo Unit) (b : Gm) : Gm := fun ws s => match t s with
  | some (.ok _, s') => b ws s'
  | some (.error x, s') => some (.error x, s')
  | none => none
noncomputable def mGfor (mi : Mo Wk) (t : W → Mo Unit) (mb : Gm) : Gm := fun ws s => match mi s with
  | some (.ok k, s') => forG k k.ws (fun w => mGt (t w) mb) ws s'
  | some (.error x, s') => some (.error x, s')
  | none => none
theorem ref_gfor {wi : TI} {g : TG} {tb : TGn} {mi : Mo Wk} {t : W → Mo Unit} {mb : Gm} {l : List Nat} (hi : RefI K mg ea Wx wi mi) (hg : RefG K mg ea g t l) (hb : RefN K mg ea Wx tb mb) : RefN K mg ea Wx (tGFor wi g tb) (mGfor mi t mb) := by
  intro σ H io Fr s S0 ws0 ys0 R0 r0 s' e D hok hex
  unfold mGfor at e
  cases k : mi s with
  | none => rw [k] at e; cases e
  | some pr =>
    obtain ⟨rk, s1⟩ := pr
    rw [k] at e
    refine hi σ H io Fr s S0 _ _ k _ (fun kw q J H1 io1 px G => ?_) fun x q cls d H' io' px => ?_
    · subst q
      have e : forG kw kw.ws (fun w => mGt (t w) mb) ws0 s1 = some (r0, s') := e
      refine ⟨fun i m ys σ2 H2 => m = kw.ws.length - i ∧ i ≤ kw.ws.length ∧ ∃ io2 s2 ws, Sim K mg ea io2 Fr s2 σ2 H2 ∧ Rws K mg io2 (Ms io2 Fr s2 σ2) H2 ws ys ∧ Stp io (Ms io Fr s σ) Fr H io2 (Ms io2 Fr s2 σ2) H2 ∧ Pers io1 (Ms io1 Fr s1 σ) H1 io2 (Ms io2 Fr s2 σ2) H2 ∧
        (∀ x o, H1 x = some o → ∃ o', H2 x = some o') ∧ forG kw (kw.ws.drop i) (fun w => mGt (t w) mb) ws s2 = some (r0, s'),
        ⟨kw.ws.length, by simp, Nat.zero_le _, io1, s1, ws0, px.1, R0.pers px.2.p, px.2, .refl, fun _ o h => ⟨o, h⟩, by simpa using e⟩, ?_⟩
      rintro i m ys σ2 H2 ⟨rfl, hle, io2, s2, ws, S2, R2, T2, P2, tk, e3⟩
      have ck : kw.ok s2 := by
        cases hd : kw.ws.drop i with
        | nil =>
          rw [hd] at e3; unfold forG at e3; split at e3
          · assumption
          · cases e3
        | cons w l =>
          rw [hd] at e3; unfold forG at e3; split at e3
          · assumption
          · cases e3
      have cn := cn_of S2 ck
      by_cases hlt : i < kw.ws.length
      · refine .inr ⟨G.go _ _ _ P2 cn i hlt, fun ys3 σ3 H3 => ∃ io3 s3 ws3, Sim K mg ea io3 Fr s3 σ3 H3 ∧ Rws K mg io3 (Ms io3 Fr s3 σ3) H3 ws3 ys3 ∧ Stp io (Ms io Fr s σ) Fr H io3 (Ms io3 Fr s3 σ3) H3 ∧ Pers io1 (Ms io1 Fr s1 σ) H1 io3 (Ms io3 Fr s3 σ3) H3 ∧
          (∀ x o, H1 x = some o → ∃ o', H3 x = some o') ∧ forG kw (kw.ws.drop (i + 1)) (fun w => mGt (t w) mb) ws3 s3 = some (r0, s'), fun ys3 σ3 H3 ⟨io3, s3, ws3, a1, a2, a3, a4, a5, a6⟩ => ⟨kw.ws.length - (i + 1), by omega, rfl, hlt, io3, s3, ws3, a1, a2, a3, a4, a5, a6⟩, fun x H3 y => ?_⟩
        rw [drop_get hlt] at e3
        have item : ∃ io3 , Sim K mg ea io3 Fr s2 σ2 H3 ∧ Stp io2 (Ms io2 Fr s2 σ2) Fr H2 io3 (Ms io3 Fr s2 σ2) H3 ∧ Rw K mg io3 (Ms io3 Fr s2 σ2) H3 kw.ws[i] x := by
          rcases G.yld _ _ _ P2 cn (fun a z => S2.trkN z) i x H3 y kw.ws[i] (by simp [hlt]) with ⟨rfl, r⟩ | ⟨p, us, ws', hp, rfl, hw, rfl, r⟩
          · exact ⟨io2, S2, .refl, r⟩
          · obtain ⟨S3, T3⟩ := S2.laid (o := .tup us) hp
            have r' := r.pers T3.p
            refine ⟨io2, S3, T3, ?_⟩
            rw [hw]
            refine .tup (.inl ⟨upd_same, fun z => ?_⟩) r'.1 r'.2
            obtain ⟨u, e⟩ := S2.trk z
            rw [hp] at e; cases e
        obtain ⟨io3, S3, T3, R3⟩ := item
        have T23 := T2.trans T3
        have P3 := P2.trans T3.p tk
        have tk3 : ∀ x o, H1 x = some o → ∃ o', H3 x = some o' := fun x o h => let ⟨o', h'⟩ := tk x o h; T3.trk x o' h'
        unfold forG at e3
        rw [if_pos ck] at e3
        dsimp only at e3
        cases k5 : t kw.ws[i] s2 with
        | none =>
          have : mGt (t kw.ws[i]) mb ws s2 = none := by unfold mGt; rw [k5]
          rw [this] at e3; cases e3
        | some pr5 =>
          obtain ⟨r5, s5⟩ := pr5
          have h5 := hg.ne _ _ _ _ k5
          subst h5
          have eb : mGt (t kw.ws[i]) mb ws s2 = mb ws s5 := by unfold mGt; rw [k5]
          rw [eb] at e3
          refine hg.go σ2 H3 io3 Fr s2 _ x S3 R3 _ _ k5 _ fun σ5 S5 l5 _ _ => ?_
          have T5 : Stp io3 (Ms io3 Fr s2 σ2) Fr H3 io3 (Ms io3 Fr s5 σ5) H3 := Stp.refl.less l5
          cases k6 : mb ws s5 with
          | none => rw [k6] at e3; cases e3
          | some pr6 =>
            obtain ⟨r6, s6⟩ := pr6
            rw [k6] at e3
            refine hb σ5 H3 io3 Fr s5 S5 ws ys ((R2.pers T3.p).pers T5.p) _ _ k6 _ (fun f ws6 q σ6 H6 io6 ys6 p6 R6 => ?_) fun xx q cls d σ6 H6 io6 p6 => ?_
            · subst q
              have T6 := T23.trans (T5.trans p6.2)
              have again : forG kw (kw.ws.drop (i + 1)) (fun w => mGt (t w) mb) ws6 s6 = some (r0, s') → ∃ io3 s3 ws3, Sim K mg ea io3 Fr s3 σ6 H6 ∧ Rws K mg io3 (Ms io3 Fr s3 σ6) H6 ws3 ys6 ∧ Stp io (Ms io Fr s σ) Fr H io3 (Ms io3 Fr s3 σ6) H6 ∧ Pers io1 (Ms io1 Fr s1 σ) H1 io3 (Ms io3 Fr s3 σ6) H6 ∧
                  (∀ x o, H1 x = some o → ∃ o', H6 x = some o') ∧ forG kw (kw.ws.drop (i + 1)) (fun w => mGt (t w) mb) ws3 s3 = some (r0, s') := fun e6 =>
                ⟨io6, s6, ws6, p6.1, R6, T6, P3.trans (T5.trans p6.2).p tk3, fun x o h => let ⟨o', h'⟩ := tk3 x o h; (T5.trans p6.2).trk x o' h', e6⟩
              cases f with
              | nx => exact again e3
              | ct => exact again e3
              | bk =>
                cases e3
                exact hok .nx ws6 rfl σ6 H6 io6 ys6 ⟨p6.1, T6⟩ R6
            · subst q
              cases e3
              exact hex xx rfl cls d σ6 H6 io6 ⟨p6.1, T23.trans (T5.trans p6.2.1), p6.2.2⟩
      · have hi' : i = kw.ws.length := by omega
        subst hi'
        rw [List.drop_length] at e3
        unfold forG at e3
        rw [if_pos ck] at e3
        cases e3
        exact .inl ⟨G.stop _ _ _ P2 cn, hok .nx ws rfl σ2 H2 io2 ys ⟨S2, T2⟩ R2⟩
    · subst q; cases e; exact hex x rfl cls d σ H' io' px
end
end Z
set_option linter.all false
set_option Elab.async false
set_option maxRecDepth 100000
namespace Z
open PySem PySem.Spec PyProof.Rows L2
def fuelZ : Nat := 100000
theorem fuel_ge : 99999 < fuelZ := by decide
noncomputable def whileM (c : Mo Bool) (b : Mo Fl) : Nat → Mo Fl
  | 0 => stk
  | n + 1 => bnd c fun x => if x = true then (bnd b fun f => match f with
    | .nx => whileM c b n
    | .ct => whileM c b n
    | .bk => ret .nx
    | .rt v => ret (.rt v)) else ret .nx
noncomputable def mWhile (c : Mo Bool) (b : Mo Fl) : Mo Fl := whileM c b fuelZ
section
variable {K : PySem.W.Frag} {mg : Str → Option Value} {ea : EA} {Wx : WX}
theorem ref_while {tc : TT} {tb : TS} {mc : Mo Bool} {mb : Mo Fl} (hc : RefT K mg ea Wx tc mc) (hb : RefS K mg ea Wx tb mb) : RefS K mg ea Wx (tWhile tc tb) (mWhile mc mb) := by
  intro σ H io Fr s S0 r0 s' e D hnx hbk hct hrt hex
  refine ⟨fun m σ2 H2 => ∃ io2 s2, Sim K mg ea io2 Fr s2 σ2 H2 ∧ Stp io (Ms io Fr s σ) Fr H io2 (Ms io2 Fr s2 σ2) H2 ∧ whileM mc mb m s2 = some (r0, s'), ⟨fuelZ, io, s, S0, .refl, e⟩, ?_⟩
  rintro m σ2 H2 ⟨io2, s2, S2, T2, e2⟩
  cases m with
  | zero => cases e2
  | succ m =>
    rcases bnd_some e2 with ⟨x, e3, rfl⟩ | ⟨b, s3, e3, e4⟩
    · exact hc σ2 H2 io2 Fr s2 S2 _ _ e3 _ (fun _ q => by cases q) fun x' q cls d H' io' px => by
        cases q
        exact hex _ rfl cls d σ2 H' io' ⟨px.1, T2.trans px.2.1, px.2.2⟩
    · refine hc σ2 H2 io2 Fr s2 S2 _ _ e3 _ (fun b' q H3 io3 px => ?_) (fun _ q => by cases q)
      cases q
      have T3 := T2.trans px.2
      cases b with
      | false =>
        rw [if_neg Bool.false_ne_true] at e4 ⊢
        cases e4
        exact hnx rfl σ2 H3 io3 ⟨px.1, T3⟩
      | true =>
        rw [if_pos rfl] at e4 ⊢
        refine ⟨fun σ4 H4 => ∃ io4 s4, Sim K mg ea io4 Fr s4 σ4 H4 ∧ Stp io (Ms io Fr s σ) Fr H io4 (Ms io4 Fr s4 σ4) H4 ∧ whileM mc mb m s4 = some (r0, s'), fun σ4 H4 w => ⟨m, Nat.lt_succ_self m, w⟩, ?_⟩
        rcases bnd_some e4 with ⟨x, e5, rfl⟩ | ⟨f, s4, e5, e6⟩
        · exact hb σ2 H3 io3 Fr s3 px.1 _ _ e5 _ (fun q => by cases q) (fun q => by cases q) (fun q => by cases q) (fun _ q => by cases q) fun x' q cls d σ' H' io' p => by
            cases q
            exact hex _ rfl cls d σ' H' io' ⟨p.1, T3.trans p.2.1, p.2.2⟩
        · refine hb σ2 H3 io3 Fr s3 px.1 _ _ e5 _ (fun q σ' H' io' p => ?_) (fun q σ' H' io' p => ?_) (fun q σ' H' io' p => ?_) (fun u q v H' io' p => ?_) fun x' q => by cases q
          · cases q; exact ⟨io', s4, p.1, T3.trans p.2, e6⟩
          · cases q; cases e6; exact hnx rfl σ' H' io' ⟨p.1, T3.trans p.2⟩
          · cases q; exact ⟨io', s4, p.1, T3.trans p.2, e6⟩
          · cases q; cases e6; exact hrt _ rfl v H' io' (p.trans T3)
end
section
variable {X : Cx} {ea : EA} {Wx : WX} {c : Expr} {body : List Stmt} {mc : Mo Bool} {mb : Mo Fl} {pos : Pos}
theorem pes_while (pa : PassesOwn (model X.prog X.w) X.A X.env X.xe) (hc : Pet X ea Wx c mc) (hb : Pess X ea Wx body mb) : Pes X ea Wx (.While c body [] pos) (mWhile mc mb) := by
  obtain ⟨t, q, r⟩ := hc.ex
  obtain ⟨t2, q2, r2⟩ := hb.ex
  exact ⟨_, ps_while pa q q2, ref_while r r2⟩
end
theorem while_at {c : Mo Bool} {b : Mo Fl} (I : S → Prop) (μ : S → Nat) (go : S → Bool) (hc : ∀ s, I s → ∃ s', c s = some (.ok (go s), s') ∧ (go s = false → s' = s) ∧ (go s = true → ∃ s2, b s' = some (.ok .nx, s2) ∧ I s2 ∧ μ s2 < μ s)) :
    ∀ (n : Nat) (s : S), I s → μ s < n → ∃ s', whileM c b n s = some (.ok .nx, s') ∧ I s' ∧ go s' = false := by
  intro n
  induction n with
  | zero => intro s _ h; omega
  | succ n ih =>
    intro s hI hm
    obtain ⟨s', e, h1, h2⟩ := hc s hI
    cases hg : go s with
    | false =>
      obtain rfl := h1 hg
      rw [hg] at e
      refine ⟨s', ?_, hI, hg⟩
      unfold whileM
      rw [bnd_at e, if_neg Bool.false_ne_true]
      rfl
    | true =>
      obtain ⟨s2, e2, I2, m2⟩ := h2 hg
      rw [hg] at e
      obtain ⟨s3, e3, I3, g3⟩ := ih s2 I2 (by omega)
      refine ⟨s3, ?_, I3, g3⟩
      unfold whileM
      rw [bnd_at e, if_pos rfl, bnd_at e2]
      exact e3
theorem mWhile_at {c : Mo Bool} {b : Mo Fl} {s : S} (I : S → Prop) (μ : S → Nat) (go : S → Bool) (hI : I s) (hm : μ s < fuelZ) (hc : ∀ s, I s → ∃ s', c s = some (.ok (go s), s') ∧ (go s = false → s' = s) ∧ (go s = true → ∃ s2, b s' = some (.ok .nx, s2) ∧ I s2 ∧ μ s2 < μ s)) :
    ∃ s', mWhile c b s = some (.ok .nx, s') ∧ I s' ∧ go s' = false := while_at I μ go hc fuelZ s hI hm
def fOrA1 : W → W → Option OR
  | .int i, .int j => some (.imm (.int (Builtin.bitOr i j)))
  | _, _ => none
@[simp] theorem fOrA1_e {i j : Int} : fOrA1 (.int i) (.int j) = some (.imm (.int (Builtin.bitOr i j))) := rfl
theorem ipm_or {X : Cx} : IpM X .BitOr fOrA1 := by
  refine ⟨_, iop_or, fun io M H x y vx vy z Q rx ry e q => ?_⟩
  unfold fOrA1 at e
  split at e
  · cases e
    have := rx.int
    subst this
    have := ry.int
    subst this
    exact ⟨_, _, rfl, rfl, q _ (.int _)⟩
  · cases e
end Z
set_option linter.all false
set_option Elab.async false
set_option maxRecDepth 100000
namespace Z
open PySem PySem.Spec PyProof.Rows L2 GenW
structure Pgs (X : Cx) (ea : EA) (Wx : WX) (st : Stmt) (m : Gm) : Prop where
  ex : ∃ t, GS X st t ∧ RefN X.K X.mg ea Wx t m
structure Pgss (X : Cx) (ea : EA) (Wx : WX) (st : List Stmt) (m : Gm) : Prop where
  ex : ∃ t, GSs X st t ∧ RefN X.K X.mg ea Wx t m
section
variable {X : Cx} {ea : EA} {Wx : WX} {st : Stmt} {rest sts : List Stmt} {e c : Expr} {m : Mo Fl} {me : Mo RV} {mt : Mo Bool} {a b : Gm} {pos yp : Pos}
theorem pgs_plain (h : Pes X ea Wx st m) : Pgs X ea Wx st (mGp m) := let ⟨_, p, r⟩ := h.ex; ⟨_, gs_ps p, ref_gp r⟩
theorem pgs_yield (h : Pee X ea Wx e me) (hco : X.env.scope.isCoroutine = false := by rfl) (hi : interactive X.env = false := by rfl) : Pgs X ea Wx (.Expr (.Yield (some e) yp) pos) (mGy me) := let ⟨_, p, r⟩ := h.ex; ⟨_, gs_yield p hco hi, ref_gy r⟩
theorem pgss_nil : Pgss X ea Wx [] mGnil := ⟨_, gss_nil, ref_gnil⟩
theorem pgss_cons (h : Pgs X ea Wx st a) (h' : Pgss X ea Wx rest b) : Pgss X ea Wx (st :: rest) (mGseq a b) := let ⟨_, p, r⟩ := h.ex; let ⟨_, p', r'⟩ := h'.ex; ⟨_, gss_cons p p', ref_gseq r r'⟩
theorem pgs_if (hc : Pet X ea Wx c mt) (h : Pgss X ea Wx sts a) (h' : Pgss X ea Wx rest b) : Pgs X ea Wx (.If c sts rest pos) (mGif mt a b) := let ⟨_, p, r⟩ := hc.ex; let ⟨_, p1, r1⟩ := h.ex; let ⟨_, p2, r2⟩ := h'.ex; ⟨_, gs_if p p1 p2, ref_gif r r1 r2⟩
theorem pgs_for {tg iter : Expr} {mi : Mo Wk} {t : W → Mo Unit} {l : List Nat} (hp : PassesOwn (model X.prog X.w) X.A X.env X.xe) (hi : Pei X ea Wx tg iter mi) (hg : Peg X ea tg t l) (hb : Pgss X ea Wx sts a) (hc : X.calm = true := by rfl) (hs : ∀ x, foldedSetIterable iter X.env x = pure x := by intro _; rfl) :
    Pgs X ea Wx (.For tg iter sts [] pos) (mGfor mi t a) := let ⟨_, p, r⟩ := hi.ex; let ⟨_, p1, r1⟩ := hg.ex; let ⟨_, p2, r2⟩ := hb.ex; ⟨_, gs_for hp hc p p1 p2 hs, ref_gfor r r1 r2⟩
end
abbrev Gn := List W → List Cell → Option (Except Ex (List W) × List Cell)
def spGM (K : PySem.W.Frag) (mg : Str → Option Value) (n : Nat) (m : Gn) : SpG := fun vs H Q E => vs.length = n ∧ ∃ io Fr G ws r G', GSim K mg io Fr G H ∧ Rws K mg io (Mu io Fr) H ws vs ∧ m ws G = some (r, G') ∧
  (∀ out, r = .ok out → ∀ ys H' io', GSim K mg io' Fr G' H' → Stp io (Mu io Fr) Fr H io' (Mu io' Fr) H' → Rws K mg io' (Mu io' Fr) H' out ys → Q ys H') ∧ (∀ x, r = .error x → ∀ cls d H' io', PostXF K mg io (Mu io Fr) Fr H G' io' H' x cls d → E cls d H')
structure GnM (P : Program) (w : World) (K : PySem.W.Frag) (mg : Str → Option Value) (base : Heap) (k : Nat) (f : Addr) (fd : FuncData) (ps : List Str) (m : Gn) : Prop where
  ok : GFn P w K mg base k f fd ps (spGM K mg ps.length m)
def genM (n : Nat) (body : Gm) : Gn := fun ws G => match body [] ⟨ws.map SV.val ++ List.replicate (n - ws.length) SV.non, G⟩ with
  | some (.ok (.nx, out), s) => some (.ok out, s.G)
  | some (.error x, s) => some (.error x, s.G)
  | _ => none
section
variable {P : Program} {w : World} {K : PySem.W.Frag} {mg : Str → Option Value} {base : Heap}
theorem GFn.mono {k k' : Nat} {f : Addr} {fd : FuncData} {ps : List Str} {sp : SpG} (F : GFn P w K mg base k f fd ps sp) (h : k ≤ k') : GFn P w K mg base k' f fd ps sp := by
  refine ⟨F.len, fun A outer s H args us vs Q E hr e0 hb r hsp => ?_⟩
  refine codeAny_mono (F.run A outer s H args us vs Q E (hr.mono h) e0 hb r hsp) fun r s' hq => ?_
  cases r with
  | error e => exact hq
  | ok fl =>
    cases fl with
    | ret u =>
      obtain ⟨a, g, c, q1, q2, q3, q4, q5, q6, q7, q8, q9, q10⟩ := hq
      exact ⟨a, g, c, q1, q2, q3, q4, q5, q6, q7, q8, q9, fun A S s2 hr => q10 A S s2 (hr.mono h)⟩
    | next => exact hq
    | brk => exact hq
    | cont => exact hq
theorem defG {x qual : Str} {st : Stmt} {f : Addr} {fd : FuncData} {N ps : List Str} {k n : Nat} {body : Gm} (F : Fun K x qual st f fd) (S : GScope N ps (defScope st)) (hn : N.length = n)
    (hb : ∀ (cdv : Value) (A : Around) (outer : List Env) (s : Shared) (H : Hp) (E : XK) (pn : List (Addr × Obj)), Room k (A.deeper (envOfC qual (defScope st) s.heap.objs.size f cdv)) → (A.deeper (envOfC qual (defScope st) s.heap.objs.size f cdv)).units + 150 < cLine →
      Takes (gcxOf P w K mg base N qual (defScope st) f cdv A outer s H E pn) (fun cls d _ H => E cls d H) →
      PassesOwn (model P w) (A.deeper (envOfC qual (defScope st) s.heap.objs.size f cdv)) (envOfC qual (defScope st) s.heap.objs.size f cdv) (gcxOf P w K mg base N qual (defScope st) f cdv A outer s H E pn).xe →
      Pgss (gcxOf P w K mg base N qual (defScope st) f cdv A outer s H E pn) ea0 (fun cls d _ H => E cls d H) (defBody st) body) : GnM P w K mg base (k + 1) f fd ps (genM n body) := by
  obtain ⟨⟨oc, od, kV, doc, pm, an, cdv, ct, osl, rfl, lk, hcd⟩, _⟩ := F
  refine ⟨gfn_of lk hcd S (fun vs H Q E h => h.1) fun A outer s H vs Q E pn hr h => ?_⟩
  obtain ⟨hl, io, Fr, G, ws, r, G', g, R, e, hok, hex⟩ := h
  obtain ⟨t, p, rf⟩ := (hb cdv A outer s H E pn hr (by have := hr.un; omega) takes_gcx owns_gcx).ex
  refine ⟨t, p, ?_⟩
  have hps : ps.length ≤ n := by
    have := congrArg List.length S.pre
    rw [List.length_take] at this
    omega
  obtain ⟨S0, mo⟩ := sim_start (ea := ea0) (s := ⟨[], G⟩) hn (by omega) g R
  unfold genM at e
  have T0 : ∀ {M' : Addr → Prop} {io' : List Addr} {H' : Hp}, Stp io (Ms io Fr ⟨ws.map SV.val ++ List.replicate (n - ws.length) SV.non, G⟩ (L2.start N vs)) Fr H io' M' H' → Stp io (Mu io Fr) Fr H io' M' H' := fun T =>
    (Stp.refl.less fun b z => (mo b).1 z : Stp io (Mu io Fr) Fr H io (Ms io Fr ⟨ws.map SV.val ++ List.replicate (n - ws.length) SV.non, G⟩ (L2.start N vs)) H).trans T
  cases k : body [] ⟨ws.map SV.val ++ List.replicate (n - ws.length) SV.non, G⟩ with
  | none => rw [k] at e; cases e
  | some pr =>
    obtain ⟨rb, sb⟩ := pr
    rw [k] at e
    refine rf _ _ _ _ _ S0 [] [] Rws.nil _ _ k _ (fun f out q σ' H' io' ys px Rx => ?_) fun xx q cls d σ' H' io' px => ?_
    · subst q
      cases f with
      | nx =>
        cases e
        have le : ∀ b, Mu io' Fr b → Ms io' Fr sb σ' b := fun b z => z.imp id .inl
        exact hok _ rfl ys H' io' (px.1.g.less (s := sb) fun b z => .inl z) ((T0 px.2).less le) (Rx.pers (.less le))
      | bk => cases e
      | ct => cases e
    · subst q
      cases e
      obtain ⟨x1, x2, x3⟩ := px
      have le : ∀ b, Mu io' Fr b → Ms io' Fr sb σ' b := fun b z => z.imp id .inl
      exact hex _ rfl cls d H' io' ⟨x1.g.less (s := sb) fun b z => .inl z, (T0 x2).less le, x3.congr le⟩
end
end Z
set_option linter.all false
set_option Elab.async false
set_option maxRecDepth 100000
namespace Z
open PySem PySem.Spec PyProof.Rows L2
section
variable {a b : Gm} {m : Mo Fl} {me : Mo RV} {mc : Mo Bool} {ws : List W} {r : List SV} {G : List Cell} {s s' : S} {k : Wk} {t : W → Mo Unit} {w : W} {out : List W}
@[simp] theorem mGnil_e : mGnil ws ⟨r, G⟩ = some (.ok (.nx, ws), ⟨r, G⟩) := rfl
@[simp] theorem mGseq_e : mGseq a b ws ⟨r, G⟩ = (match a ws ⟨r, G⟩ with
  | some (.ok (.nx, ws'), s') => b ws' s'
  | some (.ok (.bk, ws'), s') => some (.ok (.bk, ws'), s')
  | some (.ok (.ct, ws'), s') => some (.ok (.ct, ws'), s')
  | some (.error x, s') => some (.error x, s')
  | none => none) := rfl
@[simp] theorem mGif_e : mGif mc a b ws ⟨r, G⟩ = (match mc ⟨r, G⟩ with
  | some (.ok true, s') => a ws s'
  | some (.ok false, s') => b ws s'
  | some (.error x, s') => some (.error x, s')
  | none => none) := rfl
@[simp] theorem mGp_e : mGp m ws ⟨r, G⟩ = (match m ⟨r, G⟩ with
  | some (.ok .nx, s') => some (.ok (.nx, ws), s')
  | some (.ok .bk, s') => some (.ok (.bk, ws), s')
  | some (.ok .ct, s') => some (.ok (.ct, ws), s')
  | some (.error x, s') => some (.error x, s')
  | _ => none) := rfl
end
end Z
set_option linter.all false
set_option Elab.async false
set_option maxRecDepth 100000
namespace Z
open PySem PySem.Spec PyProof.Rows L2
structure Psx (X : Cx) (ea : EA) (Wx : WX) (body sts : List Stmt) (m : Mo Fl) : Prop where
  ex : ∃ t : TS, (∀ (pins : List (Addr × Obj)) (s : Shared) (σ : L2.St) (H : Hp) (D : Ends), Inv X pins σ H s → t D σ H → _root_.PySem.wpAt (model X.prog X.w) X.A (.func body X.env) (execs sts X.env) (SP X pins D) X.xe s) ∧ RefS X.K X.mg ea Wx t m
end Z
set_option linter.all false
set_option Elab.async false
set_option maxRecDepth 100000
set_option linter.all false
set_option Elab.async false
set_option maxRecDepth 100000
set_option maxHeartbeats 3200000
namespace Z
open PySem PySem.Spec PyProof.Rows L2
def dnW (i : Int) (n : Nat) : List W := (List.range n).map fun (k : Nat) => W.int (i - (k : Int))
section
variable {K : PySem.W.Frag} {mg : Str → Option Value} {ea : EA} {Wx : WX} {io : List Addr} {M : Addr → Prop} {H : Hp}
theorem itg_dn {i : Int} {n : Nat} : ItG K mg (Itc i (-1) n) ⟨dnW i n, none⟩ io M H where
  go := fun _ _ _ _ _ j hj => (show j < n by simpa [dnW] using hj)
  stop := fun _ _ _ _ _ => (show n ≤ (dnW i n).length by simp [dnW])
  yld := fun io' M' H' P _ _ j x H2 y w hw => by
    obtain ⟨y1, rfl⟩ := y
    have hj := get_lt hw
    simp only [dnW, List.length_map, List.length_range] at hj
    simp only [dnW, List.getElem?_map, List.getElem?_range hj, Option.map_some, Option.some.injEq] at hw
    subst hw
    refine .inl ⟨y1, ?_⟩
    rw [show i + (j : Int) * (-1) = i - (j : Int) by omega]
    exact .int _
noncomputable def mRng3 (ms : Mo (List RV)) : Mo Wk := bnd ms fun xs => bnd (lookAll xs) fun ws => match ws with
  | [.int i, .int j, .int (-1)] => if Rk i ∧ Rk j then ret ⟨dnW i (i - j).toNat, none⟩ else stk
  | _ => stk
theorem p3 {α β : Type} {F : α → β → Prop} {x x' x'' : α} {ys : List β} (h : Paired F [x, x', x''] ys) : ∃ y y' y'', ys = [y, y', y''] ∧ F x y ∧ F x' y' ∧ F x'' y'' := by
  cases h with
  | cons h t =>
    obtain ⟨y', y'', rfl, h', h''⟩ := p2 t
    exact ⟨_, _, _, rfl, h, h', h''⟩
theorem ref_rng3 {ta : TA} {ms : Mo (List RV)} (h : RefA K mg ea Wx ta ms) : RefI K mg ea Wx (iRng3 ta) (mRng3 ms) := by
  intro σ H io Fr s S0 r0 s' e R hok hex
  refine arg2 h S0 e hex fun xs vs s1 H1 io1 e2 px R1 => ?_
  rcases bnd_some e2 with ⟨x, e3, rfl⟩ | ⟨ws, s2, e3, e4⟩
  · obtain ⟨_, _, q, _⟩ := lookAll_ok px.1 R1 e3
    cases q
  · obtain ⟨rfl, ws', q, r2⟩ := lookAll_ok px.1 R1 e3
    cases q
    split at e4
    · split at e4
      · rename_i hz
        cases e4
        obtain ⟨v, v', v'', rfl, rv, rv', rv''⟩ := p3 r2
        obtain rfl := rv.int
        obtain rfl := rv'.int
        obtain rfl := rv''.int
        exact ⟨_, _, _, _, rfl, RgC.neg hz.1.1 hz.1.2 hz.2.1 hz.2.2, hok _ rfl _ _ _ px itg_dn⟩
      · cases e4
    · cases e4
def mRevL (m : Mo RV) : Mo RV := bnd m fun x => bnd (look (settle x)) fun w => match w with
  | .lst ws => ret (.own (.lst ws.reverse))
  | _ => stk
theorem Rws.rev {ws : List W} {vs : List V} (h : Rws K mg io M H ws vs) : Rws K mg io M H ws.reverse vs.reverse := by
  refine ⟨by simp [h.1], fun j w v hw hv => ?_⟩
  have hj : j < ws.length := by simpa using get_lt hw
  have hl := h.1
  rw [List.getElem?_reverse hj] at hw
  rw [List.getElem?_reverse (by omega)] at hv
  rw [← hl] at hv
  exact h.2 _ w v hw hv
theorem ref_revL {te : TE} {m : Mo RV} (h : RefE K mg ea Wx te m) : RefE K mg ea Wx (tRevL K te) (mRevL m) := by
  intro σ H io Fr s S0 r0 s' e Q hok hex
  refine one2 h S0 e hex fun x vx s1 H1 io1 e2 px => ?_
  obtain ⟨S1, T1, R1⟩ := px.settled
  rcases bnd_some e2 with ⟨z, e3, _⟩ | ⟨w, s2, e3, e4⟩
  · obtain ⟨_, _, q, _⟩ := look_ok S1 R1 e3
    cases q
  obtain ⟨rfl, w', q, nx⟩ := look_ok S1 R1 e3
  cases q
  split at e4
  · rename_i ws
    cases e4
    obtain ⟨a, vs, rfl, ha, rr⟩ := nx.lst
    have := OQ.post (z := .newl ws.reverse) S1 T1 fun v H3 io3 q => hok _ rfl v H3 io3 q
    exact ⟨a, vs, rfl, SqL.of ha, fun p hp => this p _ hp rr.rev⟩
  · cases e4
def ddN (ns : List Int) : Nat := (firstMet (fun i => ns.getD i 0) ns.length).length
def tLenSetT (K : PySem.W.Frag) (ta : TE) : TE := fun σ H Q => ta σ H fun x H1 => ∃ (t : Addr) (ns : List Int), x = V.ref t ∧ SqT K H1 t (ns.map V.int) ∧ ns.length ≤ 60 ∧ Q (.int (ddN ns : Nat)) H1
def ddW : W → Option Nat
  | .tup ws => match intsOf ws with
    | some ns => if ns.length ≤ 60 then some (ddN ns) else none
    | none => none
  | _ => none
def mLenSetT (m : Mo RV) : Mo RV := bnd m fun x => bnd (look (settle x)) fun w => match ddW w with
  | some k => ret (.val (.int (k : Nat)))
  | none => stk
theorem intsOf_vals {ws : List W} {vs : List V} {ns : List Int} (e : intsOf ws = some ns) (h : Rws K mg io M H ws vs) : vs = ns.map V.int := by
  induction ws generalizing vs ns with
  | nil =>
    cases e
    exact h.nil_inv
  | cons w ws ih =>
    obtain ⟨v, r, rfl, h1, h2⟩ := h.cons_inv
    cases w with
    | int i =>
      unfold intsOf at e
      obtain ⟨ms, e1, rfl⟩ := Option.map_eq_some_iff.mp e
      rw [ih e1 h2, List.map_cons]
      cases h1
      rfl
    | _ => cases e
theorem ref_lenSetT {te : TE} {m : Mo RV} (h : RefE K mg ea Wx te m) : RefE K mg ea Wx (tLenSetT K te) (mLenSetT m) := by
  intro σ H io Fr s S0 r0 s' e Q hok hex
  refine one2 h S0 e hex fun x vx s1 H1 io1 e2 px => ?_
  obtain ⟨S1, T1, R1⟩ := px.settled
  rcases bnd_some e2 with ⟨z, e3, _⟩ | ⟨w, s2, e3, e4⟩
  · obtain ⟨_, _, q, _⟩ := look_ok S1 R1 e3
    cases q
  obtain ⟨rfl, w', q, nx⟩ := look_ok S1 R1 e3
  cases q
  cases hd : ddW w with
  | none =>
    rw [hd] at e4
    cases e4
  | some k =>
    rw [hd] at e4
    cases e4
    cases w with
    | tup ws =>
      unfold ddW at hd
      cases hn : intsOf ws with
      | none =>
        simp only [hn] at hd
        cases hd
      | some ns =>
        simp only [hn] at hd
        by_cases hz : ns.length ≤ 60
        · obtain ⟨a, vs, rfl, ha, rr⟩ := Rn.tup nx
          have ev := intsOf_vals hn rr
          subst ev
          have ek : k = ddN ns := by
            have : (if ns.length ≤ 60 then some (ddN ns) else none) = some k := hd
            rw [if_pos hz] at this
            exact (Option.some.inj this).symm
          subst ek
          exact ⟨a, ns, rfl, ha, hz, hok _ rfl _ _ io1 ⟨S1, T1, .int _⟩⟩
        · have : (if ns.length ≤ 60 then some (ddN ns) else none) = some k := hd
          rw [if_neg hz] at this
          cases this
    | _ => cases hd
end
section
open PySem.W
variable {prog : Program} {w : World} {A : Around} {E : Value → Shared → Prop} {s : Shared}
abbrev newSetO (b : Bool) : Obj := { cls := .type "set", dict := none, data := .set #[] 0 (.fresh 0 0 b) }
theorem set_of_tup {t : Addr} {items : Array Value} {ns : List Int} {Q : Value → Shared → Prop} (hh : A.handled = none) (ht : s.heap.IsTuple t items) (hi : IntsAre items.toList ns) (hb : items.size + 1 < scanBound)
    (hq : ∀ (h2 : Heap) (k : Nat), h2.SetOf (intKind prog w) s.heap.objs.size (fun y => (firstMet (fun i => ns.getD i 0) items.size).any (· == y)) (firstMet (fun i => ns.getD i 0) items.size).length →
      (∀ b o, b < s.heap.objs.size → s.heap.get? b = some o → h2.get? b = some o) → Q (.ref s.heap.objs.size) { s with heap := h2, toks := k }) :
    wpAny (model prog w) A (call (.type "set") [.ref t]) Q E s := by
  have lt : t < s.heap.objs.size := let ⟨o, ho, _⟩ := ht; Heap.lt_size ho
  obtain ⟨mc, ml, mro⟩ := F.called_set.mro
  have g1 := F.called_set.made; have g2 := F.called_set.sub; have g3 := F.called_set.notType; have g4 := F.called_set.canCreate; have g5 := PySem.F.typeCall_set_1 (.ref t)
  refine wpAny_call (codeAny_of_tree ((?_ : wpAny (model prog w) _ (callAny (.type "set") _) _ _ _)))
  refine wpAny_pure ⟨Code.quiet_builtin _ (by decide +kernel), codeAny_builtin F.entry_type_call (Around.under_plain (A := A) (weight_type_call_type "set" [.ref t] []) rfl ▸ ?_)⟩
  repeat (any_goals (first | assumption | wp_step))
  refine codeAny_mono (code_set_new_1 (.ref t) (E := E) (Q₁ := fun y s1 => ∃ b : Bool, y = .ref s.heap.objs.size ∧ s1 = { s with heap := s.heap.push (newSetO b) }) fun b => ⟨b, rfl, rfl⟩) fun r s1 hr => ?_
  cases r with
  | error e => exact hr
  | ok fl =>
    cases fl with
    | ret y =>
      obtain ⟨b, rfl, rfl⟩ := hr
      have hS : (s.heap.push (newSetO b)).get? s.heap.objs.size = some (newSetO b) := Heap.get?_push_size _ rfl
      have hT : Shared.TypeIs { s with heap := s.heap.push (newSetO b) } (.ref s.heap.objs.size) "set" := ⟨_, hS, rfl⟩
      have k1 := F.called_set.init.lookup; have k2 := F.called_set.init.bind (.ref s.heap.objs.size)
      repeat (any_goals (first | assumption | wp_step))
      refine codeAny_mono (codeAny_call_builtin (R := wants (fun v s2 => v = .none ∧ ∃ h2 k, s2 = { s with heap := h2, toks := k } ∧ h2.SetOf (intKind prog w) s.heap.objs.size (fun y => (firstMet (fun i => ns.getD i 0) items.size).any (· == y)) (firstMet (fun i => ns.getD i 0) items.size).length ∧
        (∀ b o, b < s.heap.objs.size → s.heap.get? b = some o → h2.get? b = some o)) E) F.called_set.init.plain F.entry_set_init (check_set_init_1 hT ?_)) fun r2 s2 hr2 => ?_
      · have ht1 : (s.heap.push (newSetO b)).IsTuple t items := let ⟨o, ho, x⟩ := ht; ⟨o, Heap.get?_push_of_some _ ho, x⟩
        have n1 : isSubtype (.type "tuple") (.type "set") = pure false := by rw [isSubtype_type]; kernel_rfl
        have n2 : isSubtype (.type "tuple") (.type "frozenset") = pure false := by rw [isSubtype_type]; kernel_rfl
        have n3 : (Value.type "tuple" == Value.type "dict") = false := by decide
        obtain ⟨⟨oc, od, odat, osl⟩, hot, hoc, nl, hod⟩ := id ht1
        simp only at hoc hod
        subst hoc hod
        unfold Builtin.«set.__init__» noKeywords Builtin.Frozenset.updateFrom
        generalize hPI : pyIter = PI
        wp_walk
        subst hPI
        refine wpAny_pyIter_tuple ht1 (wpAny_bind (wpAny_runValue ?_))
        have e3 : A.in1.in1.in1.handled = none := by simp [hh]
        have sz1 : (s.heap.push (newSetO b)).objs.size = s.heap.objs.size + 1 := Heap.size_push ..
        have neI : t ≠ (s.heap.push (newSetO b)).objs.size := by rw [sz1]; exact Nat.ne_of_lt (Nat.lt_succ_of_lt lt)
        have nSf : s.heap.objs.size ∉ [(s.heap.push (newSetO b)).objs.size, t] := by
          rw [sz1]
          simp only [List.mem_cons, List.not_mem_nil, or_false, not_or]
          exact ⟨Nat.ne_of_lt (Nat.lt_succ_self _), Nat.ne_of_gt lt⟩
        have vals : ∀ (i : Nat) (v : Value), items[i]? = some v → ∃ t, v = .int ((fun i => ns.getD i 0) i) t := fun i v hv => hi.int_at i v (by rw [Array.getElem?_toList]; exact hv)
        refine codeAny_set_update_loopS (Walks.tuple e3 _ t neI items).toS s.heap.objs.size nSf (fun i => ns.getD i 0) vals hb (items.size - 0) 0 _ (by omega) (Nat.zero_le _) ⟨⟨_, Heap.get?_push_size _ rfl, rfl, rfl⟩, ht1.push _⟩ ?hS0 ?hR
        case hS0 =>
          refine SetOf_congr ((setObjOf_fresh (knd := intKind prog w) b).setOf (Heap.get?_push_of_some _ hS) (by unfold scanBound; omega)) (fun _ => rfl) rfl
        case hR =>
          rintro ⟨h2, g2, d2, k2, o2⟩ mv hS2
          obtain rfl : g2 = s.gens := mv.gens
          obtain rfl : d2 = s.drawn := mv.drawn
          obtain rfl : o2 = s.os := mv.os
          show wpAny _ _ _ _ _ _
          refine wpAny_pure ?_
          show wpAny _ _ (PySem.ret Value.none) _ _ _
          refine wpAny_pure ⟨rfl, h2, k2, rfl, hS2, fun c o hc e => ?_⟩
          refine mv.heap c o (fun hm => ?_) (Heap.get?_push_of_some _ (Heap.get?_push_of_some _ e))
          simp only [List.mem_cons, List.not_mem_nil, or_false, sz1] at hm
          rcases hm with q | q
          · exact Nat.ne_of_lt hc q
          · exact Nat.ne_of_lt (Nat.lt_succ_of_lt hc) q
      · cases r2 with
        | error e => exact hr2
        | ok fl2 =>
          cases fl2 with
          | ret v =>
            obtain ⟨rfl, h2, k, rfl, z1, z2⟩ := hr2
            repeat (any_goals (first | assumption | wp_step))
            exact hq _ _ z1 z2
          | next => exact hr2.elim
          | brk => exact hr2.elim
          | cont => exact hr2.elim
    | next => exact hr.elim
    | brk => exact hr.elim
    | cont => exact hr.elim
theorem unpack_star {t : Addr} {items : Array Value} {its : List Value} {u : Value} {Q : List Value → Shared → Prop} (hh : A.handled = none) (ht : s.heap.IsTuple t items) (hi : items.toList = its ++ [u]) (hz : items.size ≤ sizeLine)
    (hq : ∀ (h2 : Heap) (k : Nat), (∀ b o, s.heap.get? b = some o → h2.get? b = some o) → Q [.ref h2.objs.size, u] { s with heap := h2.push { cls := .type "list", data := .seq its.toArray }, toks := k }) :
    wpAny (model prog w) A (unpackItems (.ref t) 2 (some 0)) Q E s := by
  have ht' : IsTup s.heap t items := ht
  have lt : t < s.heap.objs.size := let ⟨o, ho, _⟩ := ht; Heap.lt_size ho
  have nl : items.size = its.length + 1 := by
    have := congrArg List.length hi
    simpa using this
  have hz2 : its.length ≤ sizeLine := by omega
  unfold unpackItems notIterableAtAll
  refine wpAny_bind (wpAny_bind (wpAny_specialOf ht'.typeIs slot_tuple_iter.lookup (wpAny_pure ?_)))
  rw [if_neg (by simp)]
  refine wpAny_bind (wpAny_holding (wpAny_pyIter_tuple ht ?_))
  refine wpAny_bind (wpAny_holding ((wpAny_pure ?_ : wpAny _ _ (draw _ 0) _ _ _)))
  rw [if_neg (by simp)]
  have neI : t ≠ s.heap.objs.size := Nat.ne_of_lt lt
  refine wpAny_bind (wpAny_holding (wpAny_collect_iter (T := "tuple_iterator") (by simp) (Walks.tuple (A := A.in1) hh s.heap.objs.size t neI items).toS (fun i s1 st => st.1.typeIs) ⟨⟨_, Heap.get?_push_size _ rfl, rfl, rfl⟩, ht.push _⟩ (fun b hb => ?_) List.mem_cons_self (fun s2 acc mv ha => ?_) hz))
  · have : (s.heap.push { cls := .type "tuple_iterator", data := .fields #[.ref t, .int 0 0] }).objs.size = s.heap.objs.size + 1 := Heap.size_push ..
    simp only [List.mem_cons, List.not_mem_nil, or_false] at hb
    show b < (s.heap.push _).objs.size
    rw [this]
    rcases hb with q | q
    · rw [q]; exact Nat.lt_succ_self _
    · rw [q]; exact Nat.lt_succ_of_lt lt
  · obtain ⟨h2, g2, d2, k2, o2⟩ := s2
    obtain rfl : g2 = s.gens := mv.gens
    obtain rfl : d2 = s.drawn := mv.drawn
    obtain rfl : o2 = s.os := mv.os
    have ea : acc.toList = its ++ [u] := by
      rw [← hi]
      have : acc = items := by
        refine Array.ext (ha.1) fun i h1 h2 => ?_
        have : items[i]? = some acc[i] := ha.2 i acc[i] (by simp [h1])
        rw [Array.getElem?_eq_getElem h2] at this
        exact (Option.some.inj this).symm
      rw [this]
    rw [ea]
    have l1 : (its ++ [u]).length = its.length + 1 := by simp
    dsimp only
    rw [l1, if_neg (by omega)]
    have tk : (its ++ [u]).take (its.length + 1 - (2 - 1 - 0)) = its := by simp
    have dr : (its ++ [u]).drop (its.length + 1 - (2 - 1 - 0)) = [u] := by simp
    rw [tk, dr]
    have old : ∀ b o, s.heap.get? b = some o → h2.get? b = some o := fun b o e => mv.heap b o (fun hm => by
      have := Heap.lt_size e
      simp only [List.mem_cons, List.not_mem_nil, or_false] at hm
      exact Nat.ne_of_lt this hm) (Heap.get?_push_of_some _ e)
    refine wpAny_bind (wpAny_newObj_type (wpAny_pure (hq h2 k2 old)) (by show its.toArray.size ≤ sizeLine; simpa using hz2))
end
section
variable {X : Cx} {ea : EA} {Wx : WX} {K : PySem.W.Frag} {mg : Str → Option Value}
theorem pe_lenSetT {a : Expr} {ta : TE} {p p2 q pos : Pos} (hc : X.calm = true) (hm : X.mg "len" = none) (hm2 : X.mg "set" = none) (ha : PE X a ta) (hg : Gl X "len" := by rfl) (hg2 : Gl X "set" := by rfl)
    (na : starEach [a] X.env = (false, eval a X.env) :: starEach [] X.env := by rfl) : PE X (.Call (.Name "len" p) [.Call (.Name "set" p2) [a] [] q] [] pos) (tLenSetT X.K ta) := by
  refine ⟨fun pins s σ H Q I h => Call_ (ld_blt I hg hm PySem.boot_len (callWith_builtin1 (args_cons (Call_ (ld_blt I hg2 hm2 boot_set ?_)) rfl) rfl rfl))⟩
  refine callWith_type1 (args_cons (thn (ha.run pins s σ H _ I h) fun v s1 ⟨x, H1, I1, r1, t, ns, ex, hq, hz, q1⟩ => args_nil ?_) na) na rfl
  subst ex
  cases r1
  obtain ⟨its, r, pl, hz2⟩ := I1.tuple hq
  have hl : its.toArray.size = ns.length := by rw [List.size_toArray, ← r.length, List.length_map]
  refine set_of_tup (I1.ok.hd hc) pl (ns := ns) (by simpa using r.ints) (by unfold scanBound; omega) fun h2 k hS hk => args_nil ?_
  rw [hl] at hS
  obtain ⟨o, es, ep, tb, ho, hex, hd, _, _, _, hf, hn⟩ := hS
  have I2 : Inv X pins σ H1 { s1 with heap := h2, toks := k } := I1.kept fun b o e => hk b o (Heap.lt_size e) e
  have le := firstMet_length_le (fun i => ns.getD i 0) ns.length
  exact call_len_set ho hex hd hf (by rw [hn]; omega) ⟨.int (ddN ns : Nat), H1, I2.tok _, ⟨_, by rw [hn]; rfl⟩, q1⟩
theorem pee_lenSetT {a : Expr} {m : Mo RV} {p p2 q pos : Pos} (hc : X.calm = true) (hm : X.mg "len" = none) (hm2 : X.mg "set" = none) (ha : Pee X ea Wx a m) (hg : Gl X "len" := by rfl) (hg2 : Gl X "set" := by rfl)
    (na : starEach [a] X.env = (false, eval a X.env) :: starEach [] X.env := by rfl) : Pee X ea Wx (.Call (.Name "len" p) [.Call (.Name "set" p2) [a] [] q] [] pos) (mLenSetT m) := by
  obtain ⟨t, q, r⟩ := ha.ex
  exact ⟨_, pe_lenSetT hc hm hm2 q hg hg2 na, ref_lenSetT r⟩
theorem pee_revL {e : Expr} {m : Mo RV} {k : Nat} {p1 p2 p3 pos : Pos} (h : Pee X ea Wx e m) : Pee X ea Wx (.Subscript e (.Slice none none (some (.UnaryOp .USub (.Constant (.int 1) k p1) p2)) p3) pos) (mRevL m) := by
  obtain ⟨t, q, r⟩ := h.ex
  exact ⟨_, pe_revL q, ref_revL r⟩
theorem pei_rng3 {tg a b c : Expr} {p pos : Pos} {ms : Mo (List RV)} (hm : X.mg "range" = none) (ha : Pea X ea Wx [a, b, c] ms) (hg : Gl X "range" := by rfl) (hs : starEach [a, b, c] X.env = (false, eval a X.env) :: starEach [b, c] X.env := by rfl) (hpl : (backTo pos (starEach [b, c] X.env)).any (·.1) = false := by rfl) :
    Pei X ea Wx tg (.Call (.Name "range" p) [a, b, c] [] pos) (mRng3 ms) := let ⟨_, p, r⟩ := ha.ex; ⟨_, pi_range3 hg hm p hs hpl, ref_rng3 r⟩
def gStar (K : PySem.W.Frag) (i j : Nat) : TG := fun v σ H Q => ∃ (t : Addr) (xs : List V) (y : V), v = .ref t ∧ SqT K H t (xs ++ [y]) ∧ ∀ p, H p = none → Q ((σ.set i (some (V.ref p))).set j (some y)) (upd H p (.lst xs))
theorem pg_star {i j : Nat} {x y : Str} {kk : Nat} {px py pp pos : Pos} (hc : X.calm = true) (hN : X.N.Nodup) (hi : X.N[i]? = some x) (hj : X.N[j]? = some y) (hx : Loc X.env.scope x) (hy : Loc X.env.scope y) (hf : X.fn x = true ∨ X.env.scope.names.lookup x = some .local) (hf' : X.fn y = true ∨ X.env.scope.names.lookup y = some .local) :
    PG X (.Tuple [.Starred (.Name x px) pp, .Name y py] kk pos) (gStar X.K i j) := by
  refine ⟨fun pins s σ H v u Q I r ⟨t, xs, z, ev, hq, h⟩ => ?_⟩
  subst ev
  cases r
  obtain ⟨its, rv, ht, hz⟩ := I.tuple hq
  obtain ⟨us, u, rfl, rx, rz⟩ : ∃ us u, its = us ++ [u] ∧ Vals xs us ∧ RelV z u := by
    have := rv
    rcases List.eq_nil_or_concat its with rfl | ⟨us, u, rfl⟩
    · have := rv.length
      simp at this
    · have hl : xs.length = us.length := by
        have := rv.length
        simpa using this
      have t1 := rv.take us.length
      have d1 := rv.drop us.length
      rw [← hl] at t1 d1
      simp only [List.take_left', List.concat_eq_append] at t1 d1
      refine ⟨us, u, by simp, ?_, ?_⟩
      · simpa [hl] using t1
      · have : Vals [z] [u] := by simpa [hl] using d1
        cases this with
        | cons a b => exact a
  rw [show assign (.Tuple [.Starred (.Name x px) pp, .Name y py] kk pos) X.env (.ref t) = (do standAt pos; unpack (.ref t) (assignEach [.Starred (.Name x px) pp, .Name y py] X.env)) from rfl]
  refine wpAny_bind (wpAny_standAt (wpAny_bind (wpAny_holding (unpack_star (I.ok.hd hc) ht (its := us) (u := u) (by simp) (by have := rx.length; simp at hz ⊢; omega) fun h2 k old => ?_))))
  have I1 : Inv X pins σ H { s with heap := h2, toks := k } := I.kept old
  have I2 : Inv X pins σ (upd H h2.objs.size (.lst xs)) { s with heap := h2.push { cls := .type "list", data := .seq us.toArray }, toks := k } :=
    I1.laid (t' := k) (fun b o e => Heap.get?_push_of_some _ e) (Nat.le_refl _) ⟨by have := rx.length; simp only [List.length_append, List.length_singleton] at hz; omega, us, 0, rx, Heap.get?_push_size _ rfl⟩
  show wpAny _ _ (assignInOrder [assign (.Name x px) X.env, assign (.Name y py) X.env] [.ref h2.objs.size, u]) _ _ _
  refine assignInOrder_cons (wpAny_assign_Name (store_ok I2 hN hi hx (v := .ref h2.objs.size) rfl (fun s3 I3 => ?_) hf))
  refine assignInOrder_cons (wpAny_assign_Name (store_ok I3 hN hj hy rz (fun s4 I4 => ?_) hf'))
  exact assignInOrder_nil ⟨_, _, I4, h _ (I1.hok.fresh (Nat.le_refl _))⟩
def mStar (i j : Nat) (m : Mo RV) : Mo Fl := bnd m fun x => bnd (freeze (settle x)) fun w => match w with
  | .tup ws => match ws.getLast? with
    | some y => fun s => some (.ok .nx, { s with r := (s.r.set i (.own (.lst ws.dropLast))).set j (.val y) })
    | none => stk
  | _ => stk
theorem ref_star {i j : Nat} {te : TE} {m : Mo RV} (hij : i ≠ j) (h : RefE K mg ea Wx te m) : RefS K mg ea Wx (tAsg te (gStar K i j)) (mStar i j m) := by
  intro σ H io Fr s S0 r0 s' e D hnx hbk hct hrt hex
  refine one2 h S0 e (fun x q cls d H' io' px => hex x q cls d σ H' io' px) fun x v s1 H1 io1 e2 px => ?_
  obtain ⟨S1, T1, R1⟩ := px.settled
  rcases bnd_some e2 with ⟨z, e3, _⟩ | ⟨w, s3, e3, e4⟩
  · obtain ⟨_, _, _, _, q, _⟩ := freeze_ok S1 R1 e3
    cases q
  obtain ⟨_, l3, S3, w', q, R3⟩ := freeze_ok S1 R1 e3
  cases q
  cases w with
  | tup ws =>
    cases hy : ws.getLast? with
    | none =>
      simp only [hy] at e4
      cases e4
    | some y =>
      simp only [hy] at e4
      cases e4
      obtain ⟨a, vs, rfl, ha, r2⟩ := Rn.tup (.inl R3)
      have ew : ws = ws.dropLast ++ [y] := by
        obtain ⟨ys, rfl⟩ := List.getLast?_eq_some_iff.mp hy
        simp
      obtain ⟨xs, z, rfl, rx, rz⟩ : ∃ xs z, vs = xs ++ [z] ∧ Rws K mg io1 (Ms io1 Fr s3 σ) H1 ws.dropLast xs ∧ Rw K mg io1 (Ms io1 Fr s3 σ) H1 y z := by
        rcases List.eq_nil_or_concat vs with rfl | ⟨us, u, rfl⟩
        · have := r2.1
          rw [ew] at this
          simp at this
        · have hl : ws.dropLast.length = us.length := by
            have := r2.1
            rw [ew] at this
            simpa using this
          have t1 := r2.take us.length
          have d1 := r2.drop us.length
          rw [ew, ← hl] at t1 d1
          rw [List.take_left', List.drop_left'] at * <;> try rfl
          refine ⟨us, u, by simp, ?_, ?_⟩
          · simpa [hl] using t1
          · have d2 : Rws K mg io1 (Ms io1 Fr s3 σ) H1 [y] [u] := by simpa [hl] using d1
            obtain ⟨_, _, e, h1, _⟩ := d2.cons_inv
            cases e
            exact h1
      refine ⟨a, xs, z, rfl, ha, fun p hp => ?_⟩
      obtain ⟨S4, T4, nf⟩ := S3.alloc (o := .lst xs) hp
      obtain ⟨S5, l5⟩ := S4.setOwn (i := i) (c := .lst ws.dropLast) upd_same nf ⟨xs, rfl, rx.pers T4.p⟩
      have T3 := T1.less l3
      have rz' := ((rz.pers T4.p).pers (.less l5))
      obtain ⟨S6, l6⟩ := S5.setVal (i := j) rz'
      exact hnx rfl _ _ io1 ⟨S6, (T3.trans T4).less fun b q => l5 b (l6 b q)⟩
  | _ => cases e4
theorem pes_star (i j : Nat) {x y : Str} {e : Expr} {m : Mo RV} {kk : Nat} {px py pp tp pos : Pos} (hN : X.N.Nodup) (hij : i ≠ j) (hc : X.calm = true) (h : Pee X ea Wx e m) (hi : X.N[i]? = some x := by rfl) (hj : X.N[j]? = some y := by rfl) (hx : Loc X.env.scope x := by first | exact Or.inl rfl | exact Or.inr rfl) (hy : Loc X.env.scope y := by first | exact Or.inl rfl | exact Or.inr rfl)
    (hf : X.fn x = true ∨ X.env.scope.names.lookup x = some .local := by first | exact .inl rfl | exact .inr rfl) (hf' : X.fn y = true ∨ X.env.scope.names.lookup y = some .local := by first | exact .inl rfl | exact .inr rfl)
    (hs : swapsWithSole [.Tuple [.Starred (.Name x px) pp, .Name y py] kk tp] e pos.line X.env = pure false := by rfl) (hw : swappedStores [.Tuple [.Starred (.Name x px) pp, .Name y py] kk tp] e X.env = pure none := by rfl) :
    Pes X ea Wx (.Assign [.Tuple [.Starred (.Name x px) pp, .Name y py] kk tp] e pos) (mStar i j m) := by
  obtain ⟨t, q, r⟩ := h.ex
  exact ⟨_, ps_asg q (pg_star hc hN hi hj hx hy hf hf') hs hw, ref_star hij r⟩
end
section
variable {r : List SV} {G : List Cell} {m : Mo RV} {ms : Mo (List RV)} {i j : Nat}
@[simp] theorem mRng3_e : mRng3 ms ⟨r, G⟩ = bnd ms (fun xs => bnd (lookAll xs) fun ws => match ws with
  | [.int i, .int j, .int (-1)] => if Rk i ∧ Rk j then ret ⟨dnW i (i - j).toNat, none⟩ else stk
  | _ => stk) ⟨r, G⟩ := rfl
@[simp] theorem mRevL_e : mRevL m ⟨r, G⟩ = bnd m (fun x => bnd (look (settle x)) fun w => match w with
  | .lst ws => ret (.own (.lst ws.reverse))
  | _ => stk) ⟨r, G⟩ := rfl
@[simp] theorem mLenSetT_e : mLenSetT m ⟨r, G⟩ = bnd m (fun x => bnd (look (settle x)) fun w => match ddW w with
  | some k => ret (.val (.int (k : Nat)))
  | none => stk) ⟨r, G⟩ := rfl
@[simp] theorem mStar_e : mStar i j m ⟨r, G⟩ = bnd m (fun x => bnd (freeze (settle x)) fun w => match w with
  | .tup ws => match ws.getLast? with
    | some y => fun s => some (.ok .nx, { s with r := (s.r.set i (.own (.lst ws.dropLast))).set j (.val y) })
    | none => stk
  | _ => stk) ⟨r, G⟩ := rfl
end
end Z
set_option linter.all false
set_option Elab.async false
set_option maxRecDepth 100000
namespace Z
open PySem PySem.Spec PyProof.Rows L2 GenW
def NoG (fs : List Frame) : Prop := ∀ F ∈ fs, ∃ k h g l c p kp, F = .ret k h g l c p kp
theorem NoG.nil : NoG [] := fun _ h => by simp at h
theorem NoG.cons {k h g l c p kp} {fs : List Frame} (h' : NoG fs) : NoG (.ret k h g l c p kp :: fs) := fun F m => by
  rcases List.mem_cons.mp m with rfl | m
  · exact ⟨_, _, _, _, _, _, _, rfl⟩
  · exact h' F m
theorem NoG.tail {F : Frame} {fs : List Frame} (h : NoG (F :: fs)) : NoG fs := fun G m => h G (List.mem_cons_of_mem _ m)
theorem NoG.app {fs gs : List Frame} (h : NoG fs) (h' : NoG gs) : NoG (fs ++ gs) := fun F m => (List.mem_append.mp m).elim (h F) (h' F)
theorem NoG.split : ∀ {fs : List Frame}, NoG fs → splitAtGen fs = none
  | [], _ => rfl
  | F :: fs, h => by
    obtain ⟨k, hd, g, l, c, p, kp, rfl⟩ := h F List.mem_cons_self
    show (splitAtGen fs).map _ = none
    rw [NoG.split h.tail]
    rfl
def stuckG : GenState → GenState
  | .suspended _ l c p fs cl => .suspended (fun _ => .unsupported "") l c p (fs.map fun F => .ret (fun _ => .unsupported "") none false [] F.where_.1 F.where_.2 []) cl
  | x => x
theorem stuck_seen (x : GenState) : (stuckG x).seen = x.seen := by
  cases x with
  | suspended k l c p fs cl =>
    show (GenStatus.suspended, some ((c, p) :: (fs.map _).map Frame.where_)) = (GenStatus.suspended, some ((c, p) :: fs.map Frame.where_))
    rw [List.map_map]
    congr 3
  | _ => rfl
theorem stuck_bare (x : GenState) : (stuckG x).bare = x.bare := by cases x <;> rfl
def Sus (x : GenState) : Prop := ∃ k l c p fs cl, x = .suspended k l c p fs cl
structure Sl (P : Nat → Option GenState) (s t : Shared) : Prop where
  heap : s.heap = t.heap
  drawn : s.drawn = t.drawn
  toks : s.toks = t.toks
  os : s.os = t.os
  size : s.gens.size = t.gens.size
  out : ∀ i, P i = none → s.gens[i]? = t.gens[i]? ∧ ∀ k l c p fs cl, t.gens[i]? = some (.suspended k l c p fs cl) → NoG fs
  ins : ∀ i x, P i = some x → Sus x ∧ s.gens[i]? = some x ∧ t.gens[i]? = some (stuckG x)
section
variable {P : Nat → Option GenState} {s t : Shared} {M : Model}
theorem sets_ne {a : Array GenState} {g i : Nat} {x : GenState} (h : i ≠ g) : (a.setIfInBounds g x)[i]? = a[i]? := by rw [Array.getElem?_setIfInBounds_ne (Ne.symm h)]
theorem Sl.set (h : Sl P s t) {g : Nat} {x : GenState} (hg : P g = none) (hx : ∀ k l c p fs cl, x = .suspended k l c p fs cl → NoG fs) : Sl P (s.setGen g x) (t.setGen g x) where
  heap := h.heap
  drawn := h.drawn
  toks := h.toks
  os := h.os
  size := by
    show (s.gens.setIfInBounds g x).size = (t.gens.setIfInBounds g x).size
    simp [h.size]
  out := fun i hi => by
    show (s.gens.setIfInBounds g x)[i]? = (t.gens.setIfInBounds g x)[i]? ∧ ∀ k l c p fs cl, (t.gens.setIfInBounds g x)[i]? = some (.suspended k l c p fs cl) → NoG fs
    by_cases e : i = g
    · subst e
      rw [Array.getElem?_setIfInBounds_self, Array.getElem?_setIfInBounds_self, h.size]
      refine ⟨rfl, fun k l c p fs cl q => ?_⟩
      split at q
      · exact hx _ _ _ _ _ _ (Option.some.inj q)
      · cases q
    · rw [sets_ne e, sets_ne e]
      exact h.out i hi
  ins := fun i y hi => by
    have e : i ≠ g := fun z => by rw [z, hg] at hi; cases hi
    obtain ⟨a, b, c⟩ := h.ins i y hi
    refine ⟨a, ?_, ?_⟩
    · show (s.gens.setIfInBounds g x)[i]? = _
      rw [sets_ne e]; exact b
    · show (t.gens.setIfInBounds g x)[i]? = _
      rw [sets_ne e]; exact c
theorem Sl.push (h : Sl P s t) (c : Code) : Sl P { s with gens := s.gens.push (.fresh c) } { t with gens := t.gens.push (.fresh c) } where
  heap := h.heap
  drawn := h.drawn
  toks := h.toks
  os := h.os
  size := by simp [h.size]
  out := fun i hi => by
    have q := h.out i hi
    simp only [Array.getElem?_push, h.size]
    split
    · exact ⟨rfl, fun _ _ _ _ _ _ z => by cases z⟩
    · exact q
  ins := fun i y hi => by
    obtain ⟨a, b, d⟩ := h.ins i y hi
    have b1 := (Array.getElem?_eq_some_iff.mp b).1
    have d1 := (Array.getElem?_eq_some_iff.mp d).1
    refine ⟨a, ?_, ?_⟩
    · simp only [Array.getElem?_push, if_neg (Nat.ne_of_lt b1)]
      exact b
    · simp only [Array.getElem?_push, if_neg (Nat.ne_of_lt d1)]
      exact d
theorem Sl.seen (h : Sl P s t) {g : Nat} {st : GenState} (e : t.gens[g]? = some st) : ∃ st', s.gens[g]? = some st' ∧ st'.seen = st.seen := by
  cases hp : P g with
  | none => exact ⟨st, by rw [(h.out g hp).1]; exact e, rfl⟩
  | some x =>
    obtain ⟨_, b, c⟩ := h.ins g x hp
    rw [c] at e
    cases e
    exact ⟨x, b, (stuck_seen x).symm⟩
theorem Sl.awake (h : Sl P s t) {g : Nat} {st : GenState} (e : t.gens[g]? = some st) (n : ¬ Sus st) : P g = none ∧ s.gens[g]? = some st := by
  cases hp : P g with
  | none => exact ⟨rfl, by rw [(h.out g hp).1]; exact e⟩
  | some x =>
    obtain ⟨⟨k, l, c, p, fs, cl, rfl⟩, _, d⟩ := h.ins g x hp
    rw [d] at e
    cases e
    exact (n ⟨_, _, _, _, _, _, rfl⟩).elim
theorem runs_stuck {Γ : PySem.Ctx} {p : Pos} {tr : Sem PySem.Fin} {fs : List Frame} {s s' : Shared} {e : End} (h : Runs M Γ p tr fs s e s') : ∀ w, tr ≠ .unsupported w := by
  induction h <;> intro w z <;> first | (cases z; done) | (rename_i a; first | exact a w z | (rename_i b; exact b w z)) | skip
  all_goals first | (rename_i ih _ ; exact ih w z) | (rename_i ih _ _; exact ih w z) | (rename_i _ ih; exact ih w z) | (simp_all; done)
theorem Sl.wH (x : Sl P s t) (h : Heap) : Sl P { s with heap := h } { t with heap := h } := ⟨rfl, x.drawn, x.toks, x.os, x.size, x.out, x.ins⟩
theorem Sl.wT (x : Sl P s t) (k : Nat) : Sl P { s with toks := k } { t with toks := k } := ⟨x.heap, x.drawn, rfl, x.os, x.size, x.out, x.ins⟩
theorem Sl.wD (x : Sl P s t) (d : Drawn) : Sl P { s with drawn := d } { t with drawn := d } := ⟨x.heap, rfl, x.toks, x.os, x.size, x.out, x.ins⟩
theorem Sl.wO (x : Sl P s t) (d : OsState := {}) : Sl P { s with os := d } { t with os := d } := ⟨x.heap, x.drawn, x.toks, rfl, x.size, x.out, x.ins⟩
def EndN (e : End) : Prop := match e with
  | .ret _ => True
  | .susp _ _ _ _ _ _ fs => NoG fs
theorem EndN.gs {e : End} (h : EndN e) : ∀ k l c p fs cl, e.genState = .suspended k l c p fs cl → NoG fs := fun k l c p fs cl q => by
  cases e with
  | ret _ => cases q
  | susp v g l' k' c' p' fs' => cases q; exact h
theorem fin_ns : ∀ (k : Resume → Sem PySem.Fin) l c p fs cl, GenState.finished = .suspended k l c p fs cl → NoG fs := fun _ _ _ _ _ _ z => by cases z
theorem run_ns : ∀ (k : Resume → Sem PySem.Fin) l c p fs cl, GenState.running = .suspended k l c p fs cl → NoG fs := fun _ _ _ _ _ _ z => by cases z
theorem runs_real {Γ : PySem.Ctx} {p : Pos} {tr : Sem PySem.Fin} {fs : List Frame} {t t' : Shared} {e : End} (h : Runs M Γ p tr fs t e t') : NoG fs → ∀ (s : Shared), Sl P s t → EndN e ∧ ∃ s', Sl P s' t' ∧ Runs M Γ p tr fs s e s' := by
  induction h with
  | done => exact fun _ s x => ⟨trivial, s, x, .done⟩
  | raise => exact fun _ s x => ⟨trivial, s, x, .raise⟩
  | again hq _ ih => intro n s x; obtain ⟨a, s', b, c⟩ := ih .nil s x; exact ⟨a, s', b, .again hq c⟩
  | rule _ ih => intro n s x; obtain ⟨a, s', b, c⟩ := ih .nil s x; exact ⟨a, s', b, .rule c⟩
  | «at» _ ih => intro n s x; obtain ⟨a, s', b, c⟩ := ih .nil s x; exact ⟨a, s', b, .at c⟩
  | load ho _ ih => intro n s x; obtain ⟨a, s', b, c⟩ := ih .nil s x; exact ⟨a, s', b, .load (by rw [x.heap]; exact ho) c⟩
  | update ho _ ih =>
    intro n s x
    obtain ⟨a, s', b, c⟩ := ih .nil _ (x.wH _)
    exact ⟨a, s', b, .update (by rw [x.heap]; exact ho) (by rw [x.heap]; exact c)⟩
  | loadIfAlive _ ih => intro n s x; obtain ⟨a, s', b, c⟩ := ih .nil s x; exact ⟨a, s', b, .loadIfAlive (by rw [x.heap]; exact c)⟩
  | point _ ih => intro n s x; obtain ⟨a, s', b, c⟩ := ih .nil s x; exact ⟨a, s', b, .point c⟩
  | alloc _ ih =>
    intro n s x
    obtain ⟨a, s', b, c⟩ := ih .nil _ (x.wH _)
    exact ⟨a, s', b, .alloc (by rw [x.heap]; exact c)⟩
  | fresh _ ih =>
    intro n s x
    obtain ⟨a, s', b, c⟩ := ih .nil _ (x.wT _)
    exact ⟨a, s', b, .fresh (by rw [x.toks]; exact c)⟩
  | ask _ ih => intro n s x; obtain ⟨a, s', b, c⟩ := ih .nil s x; exact ⟨a, s', b, .ask c⟩
  | choose hn _ ih =>
    intro n s x
    obtain ⟨a, s', b, c⟩ := ih .nil _ (x.wD _)
    exact ⟨a, s', b, .choose hn (by rw [x.drawn]; exact c)⟩
  | os _ ih =>
    intro n s x
    obtain ⟨a, s', b, c⟩ := ih .nil _ (x.wO _)
    exact ⟨a, s', b, .os (by rw [x.os]; exact c)⟩
  | handled _ ih => intro n s x; obtain ⟨a, s', b, c⟩ := ih .nil s x; exact ⟨a, s', b, .handled c⟩
  | genState hg _ ih =>
    intro n s x
    obtain ⟨st', e1, e2⟩ := x.seen hg
    obtain ⟨a, s', b, c⟩ := ih .nil s x
    exact ⟨a, s', b, .genState e1 (by rw [e2]; exact c)⟩
  | stack _ ih => intro n s x; obtain ⟨a, s', b, c⟩ := ih .nil s x; exact ⟨a, s', b, .stack c⟩
  | thread _ ih => intro n s x; obtain ⟨a, s', b, c⟩ := ih .nil s x; exact ⟨a, s', b, .thread c⟩
  | newGen _ ih =>
    intro n s x
    obtain ⟨a, s', b, c⟩ := ih .nil _ (x.push _)
    exact ⟨a, s', b, .newGen (by rw [x.size]; exact c)⟩
  | call _ _ ih1 ih2 =>
    intro n s x
    obtain ⟨_, s1, b1, c1⟩ := ih1 .nil s x
    obtain ⟨a, s', b, c⟩ := ih2 .nil s1 b1
    exact ⟨a, s', b, .call c1 c⟩
  | callSusp _ ih =>
    intro n s x
    obtain ⟨a, s1, b1, c1⟩ := ih .nil s x
    exact ⟨NoG.app a (.cons .nil), s1, b1, .callSusp c1⟩
  | yield => exact fun _ s x => ⟨NoG.nil, s, x, .yield⟩
  | resumeFresh hg _ hq _ ih1 ih2 =>
    intro n s x
    obtain ⟨q1, q2⟩ := x.awake hg (fun ⟨_, _, _, _, _, _, z⟩ => by cases z)
    obtain ⟨a1, s1, b1, c1⟩ := ih1 .nil _ (x.set q1 run_ns)
    obtain ⟨a, s', b, c⟩ := ih2 .nil _ (b1.set q1 a1.gs)
    exact ⟨a, s', b, .resumeFresh q2 c1 hq c⟩
  | @resumeSuspended Γ p g r l k s0 k0 l0 c0 p0 fs0 cl e1 s1 e s' hg h1 hq _ ih1 ih2 =>
    intro n s x
    cases hp : P g with
    | some y =>
      obtain ⟨⟨k', l', c', p', fs', cl', rfl⟩, _, d⟩ := x.ins g y hp
      rw [d] at hg
      cases hg
      exact (runs_stuck h1 _ rfl).elim
    | none =>
      obtain ⟨q2, q3⟩ := x.out g hp
      rw [hg] at q2
      obtain ⟨a1, s1, b1, c1⟩ := ih1 (q3 _ _ _ _ _ _ hg) _ (x.set hp run_ns)
      obtain ⟨a, s', b, c⟩ := ih2 .nil _ (b1.set hp a1.gs)
      exact ⟨a, s', b, .resumeSuspended q2 c1 hq c⟩
  | resumeJustStarted hg hv _ ih =>
    intro n s x
    obtain ⟨q1, q2⟩ := x.awake hg (fun ⟨_, _, _, _, _, _, z⟩ => by cases z)
    obtain ⟨a, s', b, c⟩ := ih .nil s x
    exact ⟨a, s', b, .resumeJustStarted q2 hv c⟩
  | resumeThrowFresh hg _ ih =>
    intro n s x
    obtain ⟨q1, q2⟩ := x.awake hg (fun ⟨_, _, _, _, _, _, z⟩ => by cases z)
    obtain ⟨a, s', b, c⟩ := ih .nil _ (x.set q1 fin_ns)
    exact ⟨a, s', b, .resumeThrowFresh q2 c⟩
  | resumeRunning hg _ ih =>
    intro n s x
    obtain ⟨q1, q2⟩ := x.awake hg (fun ⟨_, _, _, _, _, _, z⟩ => by cases z)
    obtain ⟨a, s', b, c⟩ := ih .nil s x
    exact ⟨a, s', b, .resumeRunning q2 c⟩
  | resumeFinished hg _ ih =>
    intro n s x
    obtain ⟨q1, q2⟩ := x.awake hg (fun ⟨_, _, _, _, _, _, z⟩ => by cases z)
    obtain ⟨a, s', b, c⟩ := ih .nil s x
    exact ⟨a, s', b, .resumeFinished q2 c⟩
  | segRet _ _ ih1 ih2 =>
    intro n s x
    obtain ⟨_, s1, b1, c1⟩ := ih1 .nil s x
    obtain ⟨a, s', b, c⟩ := ih2 n.tail s1 b1
    exact ⟨a, s', b, .segRet c1 c⟩
  | segGen _ _ _ _ =>
    intro n s x
    obtain ⟨_, _, _, _, _, _, _, z⟩ := n _ List.mem_cons_self
    cases z
  | segSuspOut hs _ ih =>
    intro n s x
    obtain ⟨a, s1, b1, c1⟩ := ih .nil s x
    exact ⟨NoG.app a n, s1, b1, .segSuspOut hs c1⟩
  | segSuspGen hs _ _ _ _ _ =>
    intro n s x
    rw [n.split] at hs
    cases hs
end
section
variable {P : Nat → Option GenState} {M : Model}
theorem wakes_real {Γ : PySem.Ctx} {p : Pos} {g : Nat} {r : Resume} {s t t' : Shared} {res : GenResult} (x : Sl P s t) (h : Wakes M Γ p g r t res t') : ∃ s', Sl P s' t' ∧ Wakes M Γ p g r s res s' := by
  unfold Wakes at h
  cases hg : t.gens[g]? with
  | none => rw [hg] at h; exact h.elim
  | some st =>
    rw [hg] at h
    cases st with
    | fresh c =>
      obtain ⟨q1, q2⟩ := x.awake hg (fun ⟨_, _, _, _, _, _, z⟩ => by cases z)
      unfold Wakes
      rw [q2]
      cases r with
      | throw y =>
        obtain ⟨rfl, rfl⟩ := h
        exact ⟨_, x.set q1 fin_ns, rfl, rfl⟩
      | send v =>
        cases v with
        | none =>
          obtain ⟨e1, s1, hr, hq, rfl, rfl⟩ := h
          obtain ⟨a, s2, b, c⟩ := runs_real hr .nil _ (x.set q1 run_ns)
          exact ⟨_, b.set q1 a.gs, e1, s2, c, hq, rfl, rfl⟩
        | _ =>
          obtain ⟨rfl, rfl⟩ := h
          exact ⟨s, x, rfl, rfl⟩
    | suspended k0 l0 c0 p0 fs0 cl =>
      obtain ⟨e1, s1, hr, hq, rfl, rfl⟩ := h
      cases hp : P g with
      | some y =>
        obtain ⟨⟨k', l', c', p', fs', cl', rfl⟩, _, d⟩ := x.ins g y hp
        rw [d] at hg
        cases hg
        exact (runs_stuck hr _ rfl).elim
      | none =>
        obtain ⟨q2, q3⟩ := x.out g hp
        rw [hg] at q2
        unfold Wakes
        rw [q2]
        obtain ⟨a, s2, b, c⟩ := runs_real hr (q3 _ _ _ _ _ _ hg) _ (x.set hp run_ns)
        exact ⟨_, b.set hp a.gs, e1, s2, c, hq, rfl, rfl⟩
    | running =>
      obtain ⟨q1, q2⟩ := x.awake hg (fun ⟨_, _, _, _, _, _, z⟩ => by cases z)
      unfold Wakes
      rw [q2]
      obtain ⟨rfl, rfl⟩ := h
      exact ⟨s, x, rfl, rfl⟩
    | finished =>
      obtain ⟨q1, q2⟩ := x.awake hg (fun ⟨_, _, _, _, _, _, z⟩ => by cases z)
      unfold Wakes
      rw [q2]
      obtain ⟨rfl, rfl⟩ := h
      exact ⟨s, x, rfl, rfl⟩
theorem wp_real {α : Type} {Γ : PySem.Ctx} (tr : Sem α) : ∀ (Q : α → Pos → Shared → Prop) (E : Value → Pos → Shared → Prop) (p : Pos) (s t : Shared), Sl P s t → Sem.wp M Γ tr Q E p t →
    Sem.wp M Γ tr (fun a p' s' => ∃ t', Sl P s' t' ∧ Q a p' t') (fun e p' s' => ∃ t', Sl P s' t' ∧ E e p' t') p s := by
  induction tr with
  | pure a => intro Q E p s t x h; exact ⟨t, x, h⟩
  | raise e => intro Q E p s t x h; exact ⟨t, x, h⟩
  | unsupported _ => intro Q E p s t _ h; exact h
  | finish _ => intro Q E p s t _ h; exact h
  | register _ _ => intro Q E p s t _ h; exact h
  | yield _ _ _ _ => intro Q E p s t _ h; exact h
  | fork _ _ => intro Q E p s t _ h; exact h
  | await _ _ _ _ _ => intro Q E p s t _ h; exact h
  | rule _ k ih => intro Q E p s t x h; exact ih () Q E p s t x h
  | «at» p' k ih => intro Q E p s t x h; exact ih () Q E p' s t x h
  | load a _ k ih => intro Q E p s t x h; obtain ⟨o, ho, h⟩ := h; exact ⟨o, by rw [x.heap]; exact ho, ih o Q E p s t x h⟩
  | update a _ f k ih =>
    intro Q E p s t x h
    have q := ih () Q E p _ _ (x.wH (t.heap.update a f)) h.2
    rw [← x.heap] at q
    exact ⟨by rw [x.heap]; exact h.1, q⟩
  | loadIfAlive a k ih =>
    intro Q E p s t x h
    have h : Sem.wp M Γ (k (t.heap.get? a)) Q E p t := h
    rw [← x.heap] at h
    exact ih _ Q E p s t x h
  | point _ k ih => intro Q E p s t x h; exact ih () Q E p s t x h
  | alloc o k ih =>
    intro Q E p s t x h
    have q := ih _ Q E p _ _ (x.wH (t.heap.push o)) h
    rw [← x.heap] at q
    exact q
  | fresh k ih =>
    intro Q E p s t x h
    have q := ih _ Q E p _ _ (x.wT (t.toks + 1)) h
    rw [← x.toks] at q
    exact q
  | ask k ih => intro Q E p s t x h; exact ih _ Q E p s t x h
  | choose src m k ih =>
    intro Q E p s t x h
    have q := ih _ Q E p _ _ (x.wD (t.drawn.bump src)) h.2
    rw [← x.drawn] at q
    exact ⟨h.1, q⟩
  | os q _ k ih =>
    intro Q E p s t x h
    have z := ih (Os.step t.os q).2 Q E p _ _ (x.wO (Os.step t.os q).1) h
    rw [← x.os] at z
    exact z
  | call c hd _ _ k ih =>
    intro Q E p s t x h
    obtain ⟨r, t1, hr, h⟩ := h
    obtain ⟨_, s1, b, c1⟩ := runs_real hr .nil s x
    exact ⟨r, s1, c1, ih r Q E p s1 t1 b h⟩
  | handled own k ih => intro Q E p s t x h; exact ih _ Q E p s t x h
  | genState g k ih =>
    intro Q E p s t x h
    obtain ⟨st, hs, h⟩ := h
    obtain ⟨st', e1, e2⟩ := x.seen hs
    exact ⟨st', e1, by rw [e2]; exact ih _ Q E p s t x h⟩
  | newGen c k ih =>
    intro Q E p s t x h
    have h : Sem.wp M Γ (k t.gens.size) Q E p { t with gens := t.gens.push (.fresh c) } := h
    rw [← x.size] at h
    exact ih _ Q E p _ _ (x.push c) h
  | resume g r _ k ih =>
    intro Q E p s t x h
    obtain ⟨res, t1, hw, h⟩ := h
    obtain ⟨s1, b, c⟩ := wakes_real x hw
    exact ⟨res, s1, c, ih res Q E p s1 t1 b h⟩
  | stack k ih => intro Q E p s t x h; exact ih _ Q E p s t x h
  | thread k ih => intro Q E p s t x h; exact ih _ Q E p s t x h
def slept (s : Shared) (i : Nat) : Option GenState := match s.gens[i]? with
  | some (.suspended k l c p fs cl) => some (.suspended k l c p fs cl)
  | _ => none
def stuckS (s : Shared) : Shared := { s with gens := s.gens.map stuckG }
theorem sl_of (s : Shared) : Sl (slept s) s (stuckS s) where
  heap := rfl
  drawn := rfl
  toks := rfl
  os := rfl
  size := by simp [stuckS]
  out := fun i hi => by
    have e : (stuckS s).gens[i]? = (s.gens[i]?).map stuckG := by simp [stuckS]
    rw [e]
    unfold slept at hi
    cases q : s.gens[i]? with
    | none => exact ⟨rfl, fun _ _ _ _ _ _ z => by cases z⟩
    | some st =>
      rw [q] at hi
      cases st with
      | suspended k l c p fs cl => cases hi
      | _ => exact ⟨rfl, fun _ _ _ _ _ _ z => by cases z⟩
  ins := fun i y hi => by
    have e : (stuckS s).gens[i]? = (s.gens[i]?).map stuckG := by simp [stuckS]
    rw [e]
    unfold slept at hi
    cases q : s.gens[i]? with
    | none => rw [q] at hi; cases hi
    | some st =>
      rw [q] at hi
      cases st with
      | suspended k l c p fs cl =>
        cases hi
        exact ⟨⟨_, _, _, _, _, _, rfl⟩, rfl, rfl⟩
      | _ => cases hi
theorem stuckS_bare {s : Shared} (h : AllBare s.gens) : AllBare (stuckS s).gens := fun y hy => by
  obtain ⟨x, hx, rfl⟩ := Array.mem_map.mp hy
  rw [stuck_bare]
  exact h x hx
theorem Sl.bare {s t s0 : Shared} (x : Sl (slept s0) s t) (h : AllBare t.gens) (h0 : AllBare s0.gens) : AllBare s.gens := fun y hy => by
  obtain ⟨i, hi, e⟩ := Array.mem_iff_getElem.mp hy
  have e1 : s.gens[i]? = some y := by rw [Array.getElem?_eq_getElem hi, e]
  cases hp : slept s0 i with
  | none =>
    rw [(x.out i hp).1] at e1
    exact h y (Array.mem_of_getElem? e1)
  | some z =>
    obtain ⟨_, b, _⟩ := x.ins i z hp
    rw [b] at e1
    cases e1
    unfold slept at hp
    split at hp
    · rename_i q
      cases hp
      exact h0 _ (Array.mem_of_getElem? q)
    · cases hp
theorem Sl.eq {s t s0 : Shared} (x : Sl (slept s0) s t) : s = { t with gens := s.gens } := by
  obtain ⟨h1, h2, h3, h4, h5⟩ := s
  obtain ⟨g1, g2, g3, g4, g5⟩ := t
  have a := x.heap; have b := x.drawn; have c := x.toks; have d := x.os
  simp only at a b c d
  subst a b c d
  rfl
theorem Sl.stay {s t s0 : Shared} (x : Sl (slept s0) s t) {g : Nat} {y : GenState} (h : s0.gens[g]? = some y) (hy : Sus y) : s.gens[g]? = some y := by
  obtain ⟨k, l, c, p, fs, cl, rfl⟩ := hy
  have : slept s0 g = some (.suspended k l c p fs cl) := by
    unfold slept
    rw [h]
  exact (x.ins g _ this).2.1
end
end Z
set_option linter.all false
set_option Elab.async false
set_option maxRecDepth 100000
namespace Z
open PySem PySem.Spec PyProof.Rows L2
def lk (L : List (Addr × Obj)) (H : Hp) : Hp := fun b => match L.lookup b with
  | some o => some (.frz o (.own b))
  | none => H b
def unl (L : List (Addr × Obj)) (H : Hp) : Hp := fun b => match L.lookup b with
  | some _ => none
  | none => H b
def Lkd (L : List (Addr × Obj)) (H : Hp) : Prop := ∀ b o, L.lookup b = some o → H b = some (.frz o (.own b))
def Opn (L : List (Addr × Obj)) (H : Hp) : Prop := ∀ b o, L.lookup b = some o → H b = none
section
variable {L : List (Addr × Obj)} {H H2 : Hp} {b : Addr}
theorem lkd_lk : Lkd L (lk L H) := fun b o e => by unfold lk; rw [e]
theorem opn_unl : Opn L (unl L H) := fun b o e => by unfold unl; rw [e]
theorem lk_old (h : Opn L H) {o : HO} (e : H b = some o) : lk L H b = some o := by
  unfold lk
  cases q : L.lookup b with
  | none => exact e
  | some u => rw [h b u q] at e; cases e
theorem unl_old (h : Lkd L H) {o : HO} (e : H b = some o) (n : ∀ ob, o ≠ .frz ob (.own b)) : unl L H b = some o := by
  unfold unl
  cases q : L.lookup b with
  | none => exact e
  | some u =>
    rw [h b u q] at e
    exact (n u (Option.some.inj e).symm).elim
theorem unl_sub {o : HO} (e : unl L H b = some o) : H b = some o := by
  unfold unl at e
  cases q : L.lookup b with
  | none => rw [q] at e; exact e
  | some u => rw [q] at e; cases e
section
variable {P : Program} {w : World} {h : Heap}
theorem HOk.locked (x : HOk P w H h) (op : Opn L H) (ob : ∀ b o, L.lookup b = some o → h.get? b = some o) : HOk P w (lk L H) h := fun a o e => by
  unfold lk at e
  cases q : L.lookup a with
  | some u =>
    rw [q] at e
    cases e
    exact ⟨ob a u q, u, ob a u q⟩
  | none =>
    rw [q] at e
    exact (x a o e).stay (fun _ _ _ z => z) (fun _ z => lk_old op z) fun _ _ z => lk_old op z
theorem HOk.unlocked (x : HOk P w H h) (lo : Lkd L H) : HOk P w (unl L H) h := fun a o e =>
  (x a o (unl_sub e)).stay (fun _ _ _ z => z) (fun _ z => unl_old lo z fun ob q => by cases q) fun _ _ z => unl_old lo z fun ob q => by cases q
theorem lk_there (x : HOk P w H h) (lo : Lkd L H) {o : Obj} (e : L.lookup b = some o) : h.get? b = some o := (x b _ (lo b o e)).1
end
section
variable {K : PySem.W.Frag} {mg : Str → Option Value} {ea : EA} {io io2 : List Addr} {M M2 Fr : Addr → Prop} {s : S} {σ : L2.St} {w : W} {v : V} {c : Cell} {o : HO}
theorem pers_lk (op : Opn L H) : Pers io M H io M (lk L H) := ⟨fun _ _ e _ => lk_old op e, fun _ z => .inl z, fun _ _ e => e⟩
theorem stp_lk (op : Opn L H) (tr : ∀ a, Fr a → ∃ o, H a = some o) : Stp io M Fr H io M (lk L H) := ⟨pers_lk op, fun a z => by
  obtain ⟨o, e⟩ := tr a z
  rw [lk_old op e, e], fun a o e => ⟨o, lk_old op e⟩⟩
theorem stp_unl (op : Opn L H) (tr : ∀ a, Fr a → ∃ o, H a = some o) (T : Stp io M Fr (lk L H) io2 M2 H2) (lo : Lkd L H2) : Stp io M Fr H io2 M2 (unl L H2) := by
  have nl : ∀ a o, H a = some o → L.lookup a = none := fun a o e => by
    cases q : L.lookup a with
    | none => rfl
    | some u => rw [op a u q] at e; cases e
  have un : ∀ a o, H a = some o → unl L H2 a = H2 a := fun a o e => by
    unfold Z.unl
    rw [nl a o e]
  refine ⟨⟨fun a o e n => by rw [un a o e]; exact T.p.keep a o (lk_old op e) n, fun a z => ?_, T.p.ext⟩, fun a z => ?_, fun a o e => ?_⟩
  · rcases T.p.new a z with q | q
    · exact .inl q
    · refine .inr ?_
      cases e : H a with
      | none => rfl
      | some o => rw [lk_old op e] at q; cases q
  · obtain ⟨o, e⟩ := tr a z
    rw [un a o e, T.fr a z, lk_old op e, e]
  · obtain ⟨o', e'⟩ := T.trk a o (lk_old op e)
    exact ⟨o', by rw [un a o e]; exact e'⟩
theorem rd_unl (lo : Lkd L H) {a : Addr} {u : HO} (h : Rd H a u) (n : ∀ ob, u ≠ .frz ob (.own a)) (n2 : u ≠ .own a) : Rd (unl L H) a u := by
  rcases h with h | ⟨o, h⟩
  · exact .inl (unl_old lo h n)
  · exact .inr ⟨o, unl_old lo h fun ob q => by cases q; exact n2 rfl⟩
theorem rw_unl (lo : Lkd L H) (h : Rw K mg io M H w v) : Rw K mg io M (unl L H) w v := by
  induction h with
  | non => exact .non
  | bl b => exact .bl b
  | int i => exact .int i
  | str x => exact .str x
  | byt b => exact .byt b
  | tup h l _ ih => exact .tup (h.imp (fun ⟨x, y⟩ => ⟨unl_old lo x (fun ob q => by cases q), y⟩) id) l ih
  | frl h l _ ih => exact .frl (h.imp (fun ⟨x, y⟩ => ⟨rd_unl lo x (fun ob q => by cases q) (fun q => by cases q), y⟩) id) l ih
  | lst h n l _ ih => exact .lst (unl_old lo h fun ob q => by cases q) n l ih
  | dK h n l _ ih => exact .dK (rd_unl lo h (fun ob q => by cases q) (fun q => by cases q)) n l ih
  | dT h n l _ ih => exact .dT (rd_unl lo h (fun ob q => by cases q) (fun q => by cases q)) n l ih
  | dF h n l _ ih => exact .dF (unl_old lo h fun ob q => by cases q) n l ih
  | obj m h n l _ ih => exact .obj m (unl_old lo h fun ob q => by cases q) n l ih
  | slt m h n h2 n2 l _ ih => exact .slt m (unl_old lo h fun ob q => by cases q) n (unl_old lo h2 fun ob q => by cases q) n2 l ih
  | ref h => exact .ref h
theorem rws_unl {ws : List W} {vs : List V} (lo : Lkd L H) (h : Rws K mg io M H ws vs) : Rws K mg io M (unl L H) ws vs := ⟨h.1, fun i w v a b => rw_unl lo (h.2 i w v a b)⟩
theorem rkv_unl {κ : Type} {ws : List (κ × W)} {vs : List (κ × V)} (lo : Lkd L H) (h : Rkv K mg io M H ws vs) : Rkv K mg io M (unl L H) ws vs := ⟨h.1, rws_unl lo h.2⟩
theorem rc_unl (lo : Lkd L H) (h : Rc K mg io M H c o) : Rc K mg io M (unl L H) c o := by
  cases c with
  | lst ws => obtain ⟨vs, e, h⟩ := h; exact ⟨vs, e, rws_unl lo h⟩
  | dK ws => obtain ⟨vs, e, h⟩ := h; exact ⟨vs, e, rkv_unl lo h⟩
  | dT ws => obtain ⟨vs, e, h⟩ := h; exact ⟨vs, e, rkv_unl lo h⟩
  | ins nm ws => obtain ⟨C, dx, vs, e, m, h⟩ := h; exact ⟨C, dx, vs, e, m, rkv_unl lo h⟩
theorem Rc.nlk (h : Rc K mg io M H c o) : ∀ ob b, o ≠ .frz ob (.own b) := fun ob b z => by
  cases c with
  | lst ws => obtain ⟨vs, e, h⟩ := h; rw [e] at z; cases z
  | dK ws => obtain ⟨vs, e, h⟩ := h; rw [e] at z; cases z
  | dT ws => obtain ⟨vs, e, h⟩ := h; rw [e] at z; cases z
  | ins nm ws => obtain ⟨C, dx, vs, e, m, h⟩ := h; rw [e] at z; cases z
theorem exr_unl {x : Ex} {cls : Value} {d : Option Addr} (lo : Lkd L H) (h : ExR K mg io M H x cls d) : ExR K mg io M (unl L H) x cls d := by
  obtain ⟨C, h1, h2, h3⟩ := h
  refine ⟨C, h1, h2, h3.imp id ?_⟩
  rintro ⟨dd, vs, e1, e2, e3, e4⟩
  exact ⟨dd, vs, e1, unl_old lo e2 (fun ob q => by cases q), e3, rkv_unl lo e4⟩
theorem gsim_unl {G : List Cell} (lo : Lkd L H) (g : GSim K mg io Fr G H) (nl : ∀ a, Fr a → ∀ o, L.lookup a ≠ some o) : GSim K mg io Fr G (unl L H) where
  len := g.len
  cell := fun n a c h1 h2 => by
    obtain ⟨o, e, q⟩ := g.cell n a c h1 h2
    exact ⟨o, unl_old lo e (fun ob => q.nlk ob a), rc_unl lo q⟩
  nd := g.nd
  dj := g.dj
  fr := fun a z => by
    obtain ⟨o, e, q⟩ := g.fr a z
    refine ⟨o, ?_, q⟩
    unfold Z.unl
    cases k : L.lookup a with
    | none => exact e
    | some u => exact (nl a z u k).elim
theorem sim_unl (lo : Lkd L H) (x : Sim K mg ea io Fr s σ H) (nl : ∀ a, Fr a → ∀ o, L.lookup a ≠ some o) : Sim K mg ea io Fr s σ (unl L H) where
  len := x.len
  g := gsim_unl lo x.g fun a z o q => by
    rcases z with z | ⟨i, c, h1, h2⟩
    · exact nl a z o q
    · obtain ⟨b, u, q1, q2, q3, _⟩ := x.own i c h1
      rw [h2] at q1
      cases q1
      rw [lo a o q] at q2
      exact q3.nlk o a (Option.some.inj q2).symm
  val := fun i w e => let ⟨v, q1, q2⟩ := x.val i w e; ⟨v, q1, rw_unl lo q2⟩
  own := fun i c e => by
    obtain ⟨a, o, q1, q2, q3, q4⟩ := x.own i c e
    exact ⟨a, o, q1, unl_old lo q2 (fun ob => q3.nlk ob a), rc_unl lo q3, q4⟩
  dist := x.dist
  exc := fun i y e => let ⟨h1, h2⟩ := x.exc i y e; ⟨h1, exr_unl lo h2⟩
theorem GSim.locked {G : List Cell} (op : Opn L H) (g : GSim K mg io Fr G H) : GSim K mg io Fr G (lk L H) where
  len := g.len
  cell := fun n a c h1 h2 => let ⟨o, e, q⟩ := g.cell n a c h1 h2; ⟨o, lk_old op e, q.pers (pers_lk op)⟩
  nd := g.nd
  dj := g.dj
  fr := fun a z => let ⟨o, e, q⟩ := g.fr a z; ⟨o, lk_old op e, q⟩
theorem Sim.locked (op : Opn L H) (x : Sim K mg ea io Fr s σ H) : Sim K mg ea io Fr s σ (lk L H) where
  len := x.len
  g := x.g.locked op
  val := fun i w e => let ⟨v, q1, q2⟩ := x.val i w e; ⟨v, q1, q2.pers (pers_lk op)⟩
  own := fun i c e => let ⟨a, o, q1, q2, q3, q4⟩ := x.own i c e; ⟨a, o, q1, lk_old op q2, q3.pers (pers_lk op), q4⟩
  dist := x.dist
  exc := fun i y e => let ⟨h1, h2⟩ := x.exc i y e; ⟨h1, h2.pers (pers_lk op)⟩
end
end
section
variable {X : Cx} {L : List (Addr × Obj)} {pins : List (Addr × Obj)} {σ : L2.St} {H : Hp} {s : Shared}
structure Afar (X : Cx) (L : List (Addr × Obj)) (pins : List (Addr × Obj)) : Prop where
  young : ∀ b o, L.lookup b = some o → X.s_0.heap.objs.size ≤ b
  loc : ∀ o, L.lookup X.env.locals ≠ some o
  cell : ∀ x c o, X.env.cells.lookup x = some c → L.lookup c ≠ some o
  pin : ∀ p ∈ X.pn ++ pins, ∀ o, L.lookup p.1 ≠ some o
  h0 : ∀ b o, L.lookup b = some o → (∀ xs, X.H_0 b ≠ some (.tup xs)) ∧ (∀ ob u, X.H_0 b ≠ some (.frz ob u)) ∧ ∀ ps, X.H_0 b ≠ some (.tbl ps)
theorem Inv.noh0 (I : Inv X pins σ H s) (op : Opn L H) : ∀ b o, L.lookup b = some o → (∀ xs, X.H_0 b ≠ some (.tup xs)) ∧ (∀ ob u, X.H_0 b ≠ some (.frz ob u)) ∧ ∀ ps, X.H_0 b ≠ some (.tbl ps) := fun b o e => by
  refine ⟨fun xs z => ?_, fun ob u z => ?_, fun ps z => ?_⟩
  · have := I.base.tups b xs z
    rw [op b o e] at this; cases this
  · have := I.base.frzs b ob u z
    rw [op b o e] at this; cases this
  · obtain ⟨m, q⟩ := I.base.tbls b ps z
    rw [op b o e] at q; cases q
theorem Inv.locked (I : Inv X pins σ H s) (op : Opn L H) (ob : ∀ b o, L.lookup b = some o → s.heap.get? b = some o) (af : Afar X L pins) : Inv X pins σ (lk L H) s := by
  have nl : ∀ b, (∀ o, L.lookup b ≠ some o) → H b = none → lk L H b = none := fun b n e => by
    unfold lk
    cases q : L.lookup b with
    | none => exact e
    | some u => exact (n u q).elim
  have old : ∀ b o, X.s_0.heap.get? b = some o → ∀ u, L.lookup b ≠ some u := fun b o e u q => absurd (Nat.lt_of_lt_of_le (Heap.lt_size e) (af.young b u q)) (Nat.lt_irrefl _)
  refine ⟨I.ok, I.os, I.bare, ⟨I.base.keep, I.base.slot, fun b o e n hx => nl b (old b o e) (I.base.free b o e n hx), I.base.there, fun b xs z => lk_old op (I.base.tups b xs z), fun b o u z => lk_old op (I.base.frzs b o u z), fun b ps z => ?_⟩, I.loc, I.cell, nl _ af.loc I.free, fun x c e => nl _ (fun o => af.cell x c o e) (I.freeC x c e), fun p hp => ?_, HOk.locked I.hok op ob, I.len⟩
  · obtain ⟨m, q⟩ := I.base.tbls b ps z
    exact ⟨m, lk_old op q⟩
  · obtain ⟨a, d, c⟩ := I.pin p hp
    exact ⟨a, nl _ (af.pin p hp) d, c⟩
theorem Inv.unlocked (I : Inv X pins σ H s) (lo : Lkd L H) (af : Afar X L pins) : Inv X pins σ (unl L H) s := by
  have un : ∀ b, H b = none → unl L H b = none := fun b e => by
    unfold unl
    cases q : L.lookup b with
    | none => exact e
    | some u => rfl
  have st : ∀ b o, (∀ u, L.lookup b ≠ some u) → H b = some o → unl L H b = some o := fun b o n e => by
    unfold unl
    cases q : L.lookup b with
    | none => exact e
    | some u => exact (n u q).elim
  refine ⟨I.ok, I.os, I.bare, ⟨I.base.keep, I.base.slot, fun b o e n hx => un b (I.base.free b o e n hx), I.base.there, fun b xs z => st b _ (fun u q => (af.h0 b u q).1 xs z) (I.base.tups b xs z), fun b o u z => st b _ (fun y q => (af.h0 b y q).2.1 o u z) (I.base.frzs b o u z), fun b ps z => ?_⟩, I.loc, I.cell, un _ I.free, fun x c e => un _ (I.freeC x c e), fun p hp => ?_, HOk.unlocked I.hok lo, I.len⟩
  · obtain ⟨m, q⟩ := I.base.tbls b ps z
    exact ⟨m, st b _ (fun u y => (af.h0 b u y).2.2 ps z) q⟩
  · obtain ⟨a, d, c⟩ := I.pin p hp
    exact ⟨a, un _ d, c⟩
end
end Z
set_option Elab.async false
set_option linter.all false
set_option maxRecDepth 100000
set_option Elab.async false
set_option linter.all false
set_option maxRecDepth 100000
set_option linter.all false
set_option Elab.async false
set_option maxRecDepth 100000
namespace Z
open PySem PySem.Spec PyProof.Rows L2
def cutH (h : Heap) (n : Nat) : Heap := { h with objs := h.objs.extract 0 n }
section
variable {h : Heap} {n : Nat} {b : Addr} {o : Obj}
theorem cutH_size (hn : n ≤ h.objs.size) : (cutH h n).objs.size = n := by simp [cutH]; omega
theorem cutH_get (hb : b < n) : (cutH h n).get? b = h.get? b := by
  have e : (cutH h n).objs[b]? = h.objs[b]? := by
    show (h.objs.extract 0 n)[b]? = _
    rw [Array.getElem?_extract]
    split
    · rw [Nat.zero_add]
    · rename_i q
      refine (Array.getElem?_eq_none ?_).symm
      rcases Nat.lt_or_ge b h.objs.size with z | z
      · exact absurd (Nat.lt_min.mpr ⟨hb, z⟩) q
      · exact z
  unfold Heap.get?
  rw [e]
theorem cutH_some (e : (cutH h n).get? b = some o) : b < n ∧ h.get? b = some o := by
  have hb : b < n := by
    have := Heap.lt_size e
    have z : (cutH h n).objs.size ≤ n := by simp [cutH]; omega
    exact Nat.lt_of_lt_of_le this z
  exact ⟨hb, by rw [← cutH_get hb]; exact e⟩
end
abbrev reb (X : Cx) (s : Shared) (H : Hp) (xe : Value → Shared → Prop) : Cx := { X with s_0 := s, H_0 := H, xe := xe }
section
variable {X : Cx} {pins : List (Addr × Obj)} {σ : L2.St} {H1 H2 : Hp} {s1 s2 : Shared} {n : Nat}
theorem Inv.rebase {xe : Value → Shared → Prop} (I : Inv X pins σ H1 s1) (hex : X.ex = []) (hn : X.s_0.heap.objs.size = n) (hok : HOk X.prog X.w H2 s2.heap) (hb : AllBare s2.gens) (bs : ∀ b o, X.base.get? b = some o → s2.heap.get? b = some o ∧ H2 b = none)
    (fu : s2.heap.FunFrames X.base X.outer) (frf : ∀ b ∈ X.fs, H2 b = none) (hsz : n ≤ s2.heap.objs.size) (kl : ∀ o, s1.heap.get? X.env.locals = some o → s2.heap.get? X.env.locals = some o) (fl : H2 X.env.locals = none)
    (kc : ∀ x c, X.env.cells.lookup x = some c → H2 c = none ∧ ∀ o, s1.heap.get? c = some o → s2.heap.get? c = some o) (kp : ∀ p ∈ X.pn ++ pins, s2.heap.get? p.1 = some p.2 ∧ H2 p.1 = none) :
    Inv (reb X { s2 with heap := cutH s2.heap n } H2 xe) pins σ H2 s2 := by
  have ok := I.ok
  have zs : (cutH s2.heap n).objs.size = n := cutH_size hsz
  have cK : ∀ x c, X.env.cells.lookup x = some c → ∀ v, s1.heap.IsCell c v → s2.heap.IsCell c v := fun x c e v ⟨o, ho, hd⟩ => ⟨o, (kc x c e).2 o ho, hd⟩
  have nx : ∀ b : Addr, b ∉ X.ex := fun b z => by rw [hex] at z; simp at z
  have low : ∀ b ∈ X.fs, b < n := fun b hb => by
    obtain ⟨_, o, ho, _⟩ := ok.funs.mem hb
    rw [← hn]
    exact Heap.lt_size ho
  have fun2 : ∀ l : List Env, (∀ b ∈ frs l, b ∈ X.fs) → s2.heap.FunFrames X.base l → (cutH s2.heap n).FunFrames X.base l := by
    intro l
    induction l with
    | nil => intro _ _; trivial
    | cons env r ih =>
      intro hs hl
      obtain ⟨hk, ⟨L, o, hf, hn2, ho, hd⟩, hr⟩ := hl
      have hL : L ∈ X.fs := hs L (by unfold frs; rw [List.filterMap_cons, hf]; exact List.mem_cons_self)
      exact ⟨hk, ⟨L, o, hf, hn2, by rw [cutH_get (low L hL)]; exact ho, hd⟩, ih (fun b hb => hs b (by unfold frs; rw [List.filterMap_cons]; cases env.frame with | none => exact hb | some L' => exact List.mem_cons_of_mem _ hb)) hr⟩
  refine ⟨⟨ok.mod, ok.kind, ok.glob, ok.blt, ?_, ok.inj, ok.has, fun x c e1 e2 => ?_, ok.hd, ok.frames, ok.stk, ok.exf, fun b o e => ?_, ?_, ok.noex, ok.exfs, fun2 X.outer (fun _ z => z) fu, frf⟩, rfl, hb,
    ⟨fun b o e _ _ _ => (cutH_some e).2, fun b o e _ _ _ => ⟨o.slots, (cutH_some e).2⟩, fun b o e n _ => n, fun b o e _ => ⟨o, (cutH_some e).2⟩, fun _ _ e => e, fun _ _ _ e => e, fun b ps e => ⟨#[], by simpa using e⟩⟩, ?_, fun x c e => ?_, fl, fun x c e => (kc x c e).1, fun p hp => ?_, hok, I.len⟩
  · show (cutH s2.heap n).objs.size ≤ X.env.locals
    rw [zs, ← hn]
    exact ok.above
  · show (cutH s2.heap n).objs.size ≤ c
    rw [zs, ← hn]
    exact ok.cab x c e1 e2
  · have hb : b < n := by
      rw [← hn]
      exact Nat.lt_of_lt_of_le (Heap.lt_size e) ok.bsz
    show (cutH s2.heap n).get? b = some o ∧ _
    rw [cutH_get hb]
    exact bs b o e
  · show X.base.objs.size ≤ (cutH s2.heap n).objs.size
    rw [zs, ← hn]
    exact ok.bsz
  · obtain ⟨m, hm, hl⟩ := I.loc
    obtain ⟨o, es, ep, ho, r⟩ := hm
    refine ⟨m, ⟨o, es, ep, kl o ho, r⟩, fun i x v e1 e2 e3 => ?_⟩
    obtain ⟨u, ru, l⟩ := hl i x v e1 e2 e3
    refine ⟨u, ru, ?_⟩
    rcases l with l | ⟨k, c, e, z⟩
    · exact .inl l
    · exact .inr ⟨k, c, e, cK x c e _ z⟩
  · obtain ⟨v, z⟩ := I.cell x c e
    exact ⟨v, cK x c e v z⟩
  · obtain ⟨_, _, a, b, c⟩ := I.pin p hp
    obtain ⟨q1, q2⟩ := kp p hp
    exact ⟨q1, q2, a, b, c⟩
theorem Inv.stretch (I : Inv X pins σ H2 s2) (u : Un (frs X.stack) [] H2 H1 (cutH s2.heap n) s1.heap) (ho : s1.os = s2.os) (hb : AllBare s1.gens) (hok : HOk X.prog X.w H1 s1.heap) (h0 : X.s_0.heap.objs.size ≤ n) (hL : X.env.locals < n) (hc : ∀ x c, X.env.cells.lookup x = some c → c < n) (hp : ∀ p ∈ X.pn ++ pins, p.1 < n) :
    Inv X pins σ H1 s1 := by
  have get : ∀ {b o}, b < n → s2.heap.get? b = some o → (cutH s2.heap n).get? b = some o := fun hb e => by rw [cutH_get hb]; exact e
  have old : ∀ {b o}, X.s_0.heap.get? b = some o → b < n := fun e => Nat.lt_of_lt_of_le (Heap.lt_size e) h0
  have neL : ∀ {b o}, X.s_0.heap.get? b = some o → b ≠ X.env.locals := fun e => Nat.ne_of_lt (Nat.lt_of_lt_of_le (Heap.lt_size e) I.ok.above)
  have nst : ∀ {b}, b ≠ X.env.locals → b ∉ X.fs → b ∉ frs X.stack := fun h1 h2 z => (List.mem_cons.mp (I.stkSub _ z)).elim h1 h2
  have cellK : ∀ x c, X.env.cells.lookup x = some c → ∀ v, s2.heap.IsCell c v → s1.heap.IsCell c v := fun x c e v ⟨o, q, hd⟩ => by
    obtain ⟨sl, e1⟩ := u.any (get (hc x c e) q) (I.freeC x c e) (by simp)
    exact ⟨_, e1, hd⟩
  refine ⟨I.ok, ho.trans I.os, hb, ⟨fun b o e n hb hx => ?_, fun b o e n hb hx => ?_, fun b o e n hx => ?_, fun b o e hx => ?_, fun b xs e => u.tups b xs (I.base.tups b xs e), fun b o y e => u.frzs b o y (I.base.frzs b o y e), fun b ps e => ?_⟩, ?_, fun x c e => ?_, ?_, fun x c e => ?_, fun p hq => ?_, hok, I.len⟩
  · exact u.keep b o (get (old e) (I.base.keep b o e n hb hx)) (I.base.free b o e n hx) (nst (neL e) hb) (by simp)
  · obtain ⟨sl, e1⟩ := I.base.slot b o e n hb hx
    obtain ⟨sl2, e2⟩ := u.any (get (old e) e1) (I.base.free b o e n hx) (by simp)
    exact ⟨sl2, e2⟩
  · obtain ⟨o', e1⟩ := I.base.there b o e hx
    exact u.free b o' (get (old e) e1) (I.base.free b o e n hx) (by simp)
  · obtain ⟨o', e1⟩ := I.base.there b o e hx
    exact u.there b o' (get (old e) e1) (by simp)
  · obtain ⟨m1, e1⟩ := I.base.tbls b ps e
    obtain ⟨m2, e2⟩ := u.tbls b _ e1
    exact ⟨m1 ++ m2, by rw [e2, Array.append_assoc]⟩
  · obtain ⟨m, ⟨o, es, ep, q, r⟩, hl⟩ := I.loc
    obtain ⟨sl, q1⟩ := u.any (get hL q) I.free (by simp)
    refine ⟨m, ⟨_, es, ep, q1, r⟩, fun i x v e1 e2 e3 => ?_⟩
    obtain ⟨w, rw', l⟩ := hl i x v e1 e2 e3
    refine ⟨w, rw', ?_⟩
    rcases l with l | ⟨k, c, e, z⟩
    · exact .inl l
    · exact .inr ⟨k, c, e, cellK x c e _ z⟩
  · obtain ⟨v, z⟩ := I.cell x c e
    exact ⟨v, cellK x c e v z⟩
  · obtain ⟨m, ⟨o, es, ep, q, r⟩, hl⟩ := I.loc
    exact u.free _ o (get hL q) I.free (by simp)
  · obtain ⟨v, o, q, hd⟩ := I.cell x c e
    exact u.free c o (get (hc x c e) q) (I.freeC x c e) (by simp)
  · obtain ⟨e, z, ne, nf, d⟩ := I.pin p hq
    exact ⟨u.keep p.1 p.2 (get (hp p hq) e) z (nst ne nf) (by simp), u.free p.1 p.2 (get (hp p hq) e) z (by simp), ne, nf, d⟩
end
end Z
set_option linter.all false
set_option Elab.async false
set_option maxRecDepth 100000
namespace Z
open PySem PySem.Spec PyProof.Rows L2
def Own (s : S) (σ : L2.St) : Addr → Prop := FrO (fun _ => False) s.r σ
def Plus (Fr O : Addr → Prop) : Addr → Prop := fun a => Fr a ∨ O a
section
variable {K : PySem.W.Frag} {mg : Str → Option Value} {ea eb : EA} {io io' : List Addr} {Fr M0 M1 : Addr → Prop} {sA sA' sB sB' : S} {σA σA' σB σB' : L2.St} {H H' : Hp}
theorem Own.at {s : S} {σ : L2.St} {a : Addr} (h : Own s σ a) : ∃ (i : Nat) (c : Cell), s.r[i]? = some (.own c) ∧ σ[i]? = some (some (V.ref a)) := h.elim False.elim id
theorem Own.fr {Fr : Addr → Prop} {s : S} {σ : L2.St} {a : Addr} (h : Own s σ a) : FrO Fr s.r σ a := .inr h.at
theorem Ms.cases {O : Addr → Prop} {a : Addr} (h : Ms io (Plus Fr O) sA σA a) : Ms io Fr sA σA a ∨ O a := by
  rcases h with h | (h | h) | h
  · exact .inl (.inl h)
  · exact .inl (.inr (.inl h))
  · exact .inr h
  · exact .inl (.inr (.inr h))
theorem Ms.plus {O : Addr → Prop} {a : Addr} (h : Ms io Fr sA σA a ∨ O a) : Ms io (Plus Fr O) sA σA a := by
  rcases h with (h | h | h) | h
  · exact .inl h
  · exact .inr (.inl (.inl h))
  · exact .inr (.inr h)
  · exact .inr (.inl (.inr h))
theorem Ms.mine {Fg : Addr → Prop} {a : Addr} (h : Ms [] Fg sB σB a) : Fg a ∨ Own sB σB a := by
  rcases h with h | h | h
  · simp at h
  · exact .inl h
  · exact .inr (.inr h)
theorem Ms.mine' {Fg : Addr → Prop} {a : Addr} (h : Fg a ∨ Own sB σB a) : Ms [] Fg sB σB a := by
  rcases h with h | h
  · exact .inr (.inl h)
  · exact .inr (.inr h.at)
theorem Sim.notFr (x : Sim K mg ea io Fr sA σA H) {a : Addr} (h : Own sA σA a) : ¬ Fr a := by
  obtain ⟨i, c, h1, h2⟩ := h.at
  obtain ⟨b, o, q1, _, _, q4⟩ := x.own i c h1
  rw [h2] at q1
  cases q1
  exact q4
theorem two_b {O : Addr → Prop} (SA : Sim K mg ea io (Plus Fr O) sA σA H) (SB' : Sim K mg eb [] (Ms io Fr sA σA) sB' σB' H') (T : Stp [] M0 (Ms io Fr sA σA) H [] M1 H') (h0 : ∀ a, M0 a → Ms io Fr sA σA a ∨ O a) (h1 : ∀ a, Own sB' σB' a → M1 a) :
    Sim K mg ea io (Plus Fr (Own sB' σB')) sA σA H' ∧ Pers io (Ms io (Plus Fr O) sA σA) H io (Ms io (Plus Fr (Own sB' σB')) sA σA) H' := by
  have p : Pers io (Ms io (Plus Fr O) sA σA) H io (Ms io (Plus Fr (Own sB' σB')) sA σA) H' := by
    refine ⟨fun a o e n => T.p.keep a o e fun z => n (Ms.plus (h0 a z)), fun a z => ?_, fun _ _ e => e⟩
    rcases Ms.cases z with z | z
    · exact .inl (Ms.plus (.inl z))
    · rcases T.p.new a (h1 a z) with q | q
      · exact .inl (Ms.plus (h0 a q))
      · exact .inr q
  have nb : ∀ a, Own sB' σB' a → ¬ Ms io Fr sA σA a := fun a z => SB'.notFr z
  refine ⟨⟨SA.len, ⟨SA.g.len, fun n a c e1 e2 => ?_, SA.g.nd, fun a ha z => ?_, fun a z => ?_⟩, fun i w e => ?_, fun i c e => ?_, SA.dist, fun i x e => ?_⟩, p⟩
  · obtain ⟨o, e, q⟩ := SA.g.cell n a c e1 e2
    exact ⟨o, by rw [T.fr a (.inl (List.mem_of_getElem? e1))]; exact e, q.pers p⟩
  · rcases z with (z | z) | z
    · exact SA.g.dj a ha (.inl (.inl z))
    · exact nb a z (.inl ha)
    · exact SA.g.dj a ha (.inr z)
  · rcases z with (z | z) | z
    · obtain ⟨o, e, q⟩ := SA.g.fr a (.inl (.inl z))
      exact ⟨o, by rw [T.fr a (.inr (.inl z))]; exact e, q⟩
    · exact SB'.g.fr a z.fr
    · obtain ⟨o, e, q⟩ := SA.g.fr a (.inr z)
      exact ⟨o, by rw [T.fr a (.inr (.inr z))]; exact e, q⟩
  · obtain ⟨v, q1, q2⟩ := SA.val i w e
    exact ⟨v, q1, q2.pers p⟩
  · obtain ⟨a, o, q1, q2, q3, q4⟩ := SA.own i c e
    refine ⟨a, o, q1, by rw [T.fr a (.inr (.inr ⟨i, c, e, q1⟩))]; exact q2, q3.pers p, fun z => ?_⟩
    rcases z with z | z
    · exact q4 (.inl z)
    · exact nb a z (.inr (.inr ⟨i, c, e, q1⟩))
  · obtain ⟨q1, q2⟩ := SA.exc i x e
    exact ⟨q1, q2.pers p⟩
theorem two_a (SB : Sim K mg eb [] (Ms io Fr sA σA) sB σB H) (SA' : Sim K mg ea io' (Plus Fr (Own sB σB)) sA' σA' H') (T : Stp io (Ms io (Plus Fr (Own sB σB)) sA σA) (Plus Fr (Own sB σB)) H io' (Ms io' (Plus Fr (Own sB σB)) sA' σA') H') :
    Sim K mg eb [] (Ms io' Fr sA' σA') sB σB H' ∧ Pers [] (Ms [] (Ms io Fr sA σA) sB σB) H [] (Ms [] (Ms io' Fr sA' σA') sB σB) H' := by
  have p : Pers [] (Ms [] (Ms io Fr sA σA) sB σB) H [] (Ms [] (Ms io' Fr sA' σA') sB σB) H' := by
    refine ⟨fun a o e n => T.p.keep a o e fun z => n (Ms.mine' (Ms.cases z)), fun a z => ?_, fun _ _ e => e⟩
    rcases T.p.new a (Ms.plus (Ms.mine z)) with q | q
    · exact .inl (Ms.mine' (Ms.cases q))
    · exact .inr q
  refine ⟨⟨SB.len, ⟨SB.g.len, fun n a c e1 e2 => by simp at e1, SB.g.nd, fun a ha => by simp at ha, fun a z => ?_⟩, fun i w e => ?_, fun i c e => ?_, SB.dist, fun i x e => ?_⟩, p⟩
  · have z : Ms [] (Ms io' Fr sA' σA') sB σB a := .inr z
    rcases Ms.mine z with z | z
    · exact SA'.trkN (Ms.plus (.inl z))
    · exact SA'.trkN (Ms.plus (.inr z))
  · obtain ⟨v, q1, q2⟩ := SB.val i w e
    exact ⟨v, q1, q2.pers p⟩
  · obtain ⟨a, o, q1, q2, q3, q4⟩ := SB.own i c e
    have oa : Own sB σB a := .inr ⟨i, c, e, q1⟩
    refine ⟨a, o, q1, by rw [T.fr a (.inr oa)]; exact q2, q3.pers p, fun z => ?_⟩
    rcases z with z | z | z
    · exact SA'.g.dj a z (.inl (.inr oa))
    · exact q4 (.inr (.inl z))
    · exact SA'.notFr (.inr z) (.inr oa)
  · obtain ⟨q1, q2⟩ := SB.exc i x e
    exact ⟨q1, q2.pers p⟩
end
end Z
set_option linter.all false
set_option Elab.async false
set_option maxRecDepth 100000
namespace Z
open PySem PySem.Spec PyProof.Rows L2 GenW
structure Fm where
  X : Cx
  xf : Shared → Hp → Value → Shared → Prop
  ea : EA
abbrev Fm.at (F : Fm) (s1 : Shared) (H1 : Hp) : Cx := reb F.X s1 H1 (F.xf s1 H1)
def Fm.ok (F : Fm) (s1 : Shared) : Prop := s1.heap.objs.size = F.X.s_0.heap.objs.size
abbrev Fm.n (F : Fm) : Nat := F.X.s_0.heap.objs.size
def cutS (s : Shared) (n : Nat) : Shared := { s with heap := cutH s.heap n }
structure GPar where
  F : Fm
  A : Around
  out : List W
  Aw : Nat → Hp → Shared → (Addr → Prop) → (Addr → Prop) → Prop
structure Lv (K : PySem.W.Frag) (mg : Str → Option Value) (Fr : Addr → Prop) (sg : S) (σ : L2.St) (H : Hp) (Fr1 : Addr → Prop) (sg1 : S) (σ1 : L2.St) (H1 : Hp) : Prop where
  p : Pers [] (Ms [] Fr sg σ) H [] (Ms [] Fr1 sg1 σ1) H1
  trk : ∀ x o, H x = some o → ∃ o', H1 x = some o'
section
variable {K : PySem.W.Frag} {mg : Str → Option Value} {Fr Fr1 Fr2 : Addr → Prop} {sg sg1 sg2 : S} {σ σ1 σ2 : L2.St} {H H1 H2 : Hp}
theorem Lv.refl : Lv K mg Fr sg σ H Fr sg σ H := ⟨.refl, fun _ o e => ⟨o, e⟩⟩
theorem Lv.trans (a : Lv K mg Fr sg σ H Fr1 sg1 σ1 H1) (b : Lv K mg Fr1 sg1 σ1 H1 Fr2 sg2 σ2 H2) : Lv K mg Fr sg σ H Fr2 sg2 σ2 H2 := ⟨a.p.trans b.p a.trk, fun x o e => let ⟨o', e'⟩ := a.trk x o e; b.trk x o' e'⟩
theorem Lv.stp (T : Stp [] (Ms [] Fr sg σ) Fr H [] (Ms [] Fr sg1 σ1) H1) : Lv K mg Fr sg σ H Fr sg1 σ1 H1 := ⟨T.p, T.trk⟩
end
structure GIz (p : GPar) (j : Nat) (ip : List (Addr × Obj)) (sg : S) (σ : L2.St) (s0 : Shared) (H0 : Hp) (Fr Bs : Addr → Prop) (H : Hp) (s : Shared) : Prop where
  aw : p.Aw j H0 s0 Fr Bs
  sz : p.F.n ≤ s0.heap.objs.size
  inv : Inv (p.F.at (cutS s0 p.F.n) H0) ip σ H s
  sim : Sim p.F.X.K p.F.X.mg p.F.ea [] Fr sg σ H
  stp : Stp [] (fun a => Fr a ∨ Bs a) Fr H0 [] (Ms [] Fr sg σ) H
structure Wak (F : Fm) (ip : List (Addr × Obj)) (s : Shared) (s2 : Shared) (H2 : Hp) : Prop where
  hok : HOk F.X.prog F.X.w H2 s2.heap
  bare : AllBare s2.gens
  bs : ∀ b o, F.X.base.get? b = some o → s2.heap.get? b = some o ∧ H2 b = none
  funs : s2.heap.FunFrames F.X.base F.X.outer
  frf : ∀ b ∈ F.X.fs, H2 b = none
  sz : F.n ≤ s2.heap.objs.size
  loc : ∀ o, s.heap.get? F.X.env.locals = some o → s2.heap.get? F.X.env.locals = some o
  free : H2 F.X.env.locals = none
  cell : ∀ x c, F.X.env.cells.lookup x = some c → H2 c = none ∧ ∀ o, s.heap.get? c = some o → s2.heap.get? c = some o
  pin : ∀ q ∈ F.X.pn ++ ip, s2.heap.get? q.1 = some q.2 ∧ H2 q.1 = none
def YZ (p : GPar) : Protocol := fun n s0 v s kap => ∃ (j : Nat) (w : W) (ip : List (Addr × Obj)) (sg : S) (σ : L2.St) (H0 : Hp) (Fr Bs : Addr → Prop) (H : Hp) (x : V), n + 1 + j = sizeLine ∧ p.out[j]? = some w ∧ GIz p j ip sg σ s0 H0 Fr Bs H s ∧ RelV x v ∧ Rw p.F.X.K p.F.X.mg [] (Ms [] Fr sg σ) H w x ∧
  ∀ (s2 : Shared) (H2 : Hp) (Fr2 : Addr → Prop), Wak p.F ip s s2 H2 → Sim p.F.X.K p.F.X.mg p.F.ea [] Fr2 sg σ H2 → Lv p.F.X.K p.F.X.mg Fr sg σ H Fr2 sg σ H2 → p.Aw (j + 1) H2 s2 Fr2 (Own sg σ) → kap (.send .none) s2
def FZ (p : GPar) : Nat → Shared → Shared → Prop := fun n s0 s => ∃ (sg : S) (σ : L2.St) (H0 : Hp) (Fr Bs : Addr → Prop) (H : Hp), n + p.out.length = sizeLine ∧ GIz p p.out.length [] sg σ s0 H0 Fr Bs H s
def RZ (p : GPar) : GenEnd := fun n s0 r s => ((r = .ok (.ret .none) ∨ r = .ok .next) ∧ FZ p n s0 s) ∨ ∃ e, r = .error e ∧ (fun (_ : Value) (_ : Shared) => False) e s
abbrev Fm.M (F : Fm) : Model := model F.X.prog F.X.w
@[simp] def GF.fl : GF → Flow
  | .nx => .next
  | .bk => .brk
  | .ct => .cont
structure GCz (F : Fm) (A : Around) (c : Code) (fs : List Frame) (gd : Bool → Bool) : Prop where
  over : A.over c fs = F.X.A
  split : splitAtGen fs = none
  guard : fs.any Frame.guarded = false
  gd : gd false = false
structure GZm (F : Fm) (T : Sem Flow) (m : Gm) : Prop where
  mono : ∀ ws s f ws' s', m ws s = some (.ok (f, ws'), s') → ws <+: ws'
  run : ∀ (p : GPar), p.F = F → ∀ (ip : List (Addr × Obj)) (n : Nat) (ws : List W) (s0 : Shared) (c : Code) (fs : List Frame) (K : Flow → Sem PySem.Fin) (J : Value → Sem PySem.Fin) (gd : Bool → Bool) (lv : List Value → List Value) (s : Shared) (σ : L2.St) (H H0 : Hp) (Fr Bs : Addr → Prop) (sg : S) (f : GF) (ws' : List W) (sg' : S),
    GCz F p.A c fs gd → n + ws.length = sizeLine → m ws sg = some (.ok (f, ws'), sg') → ws' <+: p.out →
    (∀ (n1 : Nat) (t0 t : Shared) (σ1 : L2.St) (H1 h0 : Hp) (Fr1 Bs1 : Addr → Prop), n1 + ws'.length = sizeLine → Lv F.X.K F.X.mg Fr sg σ H Fr1 sg' σ1 H1 → GIz p ws'.length ip sg' σ1 t0 h0 Fr1 Bs1 H1 t → Seg F.M p.A (RZ p) (YZ p) n1 t0 c (K f.fl) fs t) →
    (∀ (n1 : Nat) (t0 u : Shared) (h : Hp) (e : Value) (t : Shared), F.ok u → (F.at u h).xe e t → Seg F.M p.A (RZ p) (YZ p) n1 t0 c (J e) fs t) →
    GIz p ws.length ip sg σ s0 H0 Fr Bs H s → Seg F.M p.A (RZ p) (YZ p) n s0 c (T.wrap K J gd lv) fs s
def chkG {α : Type} (m : Mo α) : Mo α := fun s => match m s with
  | some (r, s') => if s'.G.isEmpty = true then some (r, s') else none
  | none => none
section
variable {F : Fm} {p : GPar}
theorem chkG_some {α : Type} {m : Mo α} {s s' : S} {r : Except Ex α} (h : chkG m s = some (r, s')) : m s = some (r, s') ∧ s'.G = [] := by
  unfold chkG at h
  cases e : m s with
  | none => rw [e] at h; cases h
  | some q =>
    obtain ⟨r1, s1⟩ := q
    rw [e] at h
    have h : (if s1.G.isEmpty = true then some (r1, s1) else none) = some (r, s') := h
    split at h
    · rename_i z
      cases h
      exact ⟨rfl, List.isEmpty_iff.mp z⟩
    · cases h
theorem Sim.noIo {K : PySem.W.Frag} {mg : Str → Option Value} {ea : EA} {io : List Addr} {Fr : Addr → Prop} {s : S} {σ : L2.St} {H : Hp} (x : Sim K mg ea io Fr s σ H) (h : s.G = []) : io = [] := by
  have := x.g.len
  rw [h] at this
  exact List.length_eq_zero_iff.mp this
theorem GIz.ok {j : Nat} {ip : List (Addr × Obj)} {sg : S} {σ : L2.St} {s0 s : Shared} {H0 H : Hp} {Fr Bs : Addr → Prop} (g : GIz p j ip sg σ s0 H0 Fr Bs H s) : p.F.ok (cutS s0 p.F.n) := cutH_size g.sz
theorem GIz.step {j : Nat} {ip ip' : List (Addr × Obj)} {sg sg' : S} {σ σ' : L2.St} {s0 s s' : Shared} {H0 H H' : Hp} {Fr Bs : Addr → Prop} (g : GIz p j ip sg σ s0 H0 Fr Bs H s) (I : Inv (p.F.at (cutS s0 p.F.n) H0) ip' σ' H' s') (S' : Sim p.F.X.K p.F.X.mg p.F.ea [] Fr sg' σ' H') (T : Stp [] (Ms [] Fr sg σ) Fr H [] (Ms [] Fr sg' σ') H') : GIz p j ip' sg' σ' s0 H0 Fr Bs H' s' :=
  ⟨g.aw, g.sz, I, S', g.stp.trans T⟩
theorem GIz.wake {j i : Nat} {ip : List (Addr × Obj)} {sg : S} {σ : L2.St} {s0 s s2 : Shared} {H0 H H2 : Hp} {Fr Bs Fr2 : Addr → Prop} (hex : p.F.X.ex = []) (g : GIz p j ip sg σ s0 H0 Fr Bs H s) (w : Wak p.F ip s s2 H2) (S2 : Sim p.F.X.K p.F.X.mg p.F.ea [] Fr2 sg σ H2) (a : p.Aw i H2 s2 Fr2 (Own sg σ)) :
    GIz p i ip sg σ s2 H2 Fr2 (Own sg σ) H2 s2 where
  aw := a
  sz := w.sz
  inv := Inv.rebase (X := p.F.at (cutS s0 p.F.n) H0) g.inv hex g.ok w.hok w.bare w.bs w.funs w.frf w.sz w.loc w.free w.cell w.pin
  sim := S2
  stp := ⟨⟨fun _ _ e _ => e, fun a z => .inl (Ms.mine z), fun _ _ e => e⟩, fun _ _ => rfl, fun _ o e => ⟨o, e⟩⟩
theorem gz_plain {st : Stmt} {m : Mo Fl} {Wf : Shared → Hp → WX} (h : ∀ s1 H1, F.ok s1 → Pes (F.at s1 H1) F.ea (Wf s1 H1) st m) : GZm F (exec st F.X.env) (mGp (chkG m)) := by
  refine ⟨fun ws s f ws' s' e => ?_, fun p hp ip n ws s0 c fs K J gd lv s σ H H0 Fr Bs sg f ws' sg' gc hn e pre ok ex g => ?_⟩
  · unfold mGp at e
    split at e <;> first | (cases e; exact List.prefix_refl _) | cases e
  subst hp
  unfold mGp at e
  have key : ∀ (fl : Fl) (gf : GF) (ff : Flow), gf.fl = ff → chkG m sg = some (.ok fl, sg') → f = gf → ws' = ws → (fl = .nx ∧ ff = .next ∨ fl = .bk ∧ ff = .brk ∨ fl = .ct ∧ ff = .cont) → Seg p.F.M p.A (RZ p) (YZ p) n s0 c ((exec st p.F.X.env).wrap K J gd lv) fs s := by
    intro fl gf ff hf e1 hfe hw hfl
    subst hfe hw
    obtain ⟨e1, eG⟩ := chkG_some e1
    obtain ⟨t, q, r⟩ := (h _ H0 g.ok).ex
    refine seg_wrap ?_
    rw [gc.over]
    have post : ∀ σ' H' io', PostS p.F.X.K p.F.X.mg p.F.ea [] Fr sg σ H sg' σ' io' H' → ∀ t, Inv (p.F.at (cutS s0 p.F.n) H0) ip σ' H' t → Seg p.F.M p.A (RZ p) (YZ p) n s0 c (K f.fl) fs t := fun σ' H' io' px t I => by
      have := px.1.noIo eG
      subst this
      exact ok n s0 t σ' H' H0 Fr Bs hn (.stp px.2) (g.step I px.1 px.2)
    refine wpAny_mono (q.run ip s σ H { nx := fun σ' H' => fl = .nx ∧ ∃ io', PostS p.F.X.K p.F.X.mg p.F.ea [] Fr sg σ H sg' σ' io' H', rt := fun _ _ => False, bk := fun σ' H' => fl = .bk ∧ ∃ io', PostS p.F.X.K p.F.X.mg p.F.ea [] Fr sg σ H sg' σ' io' H', ct := fun σ' H' => fl = .ct ∧ ∃ io', PostS p.F.X.K p.F.X.mg p.F.ea [] Fr sg σ H sg' σ' io' H' } g.inv
      (r σ H [] Fr sg g.sim _ _ e1 _ (fun z σ' H' io' px => ⟨Except.ok.inj z, io', px⟩) (fun z σ' H' io' px => ⟨Except.ok.inj z, io', px⟩) (fun z σ' H' io' px => ⟨Except.ok.inj z, io', px⟩) (fun v z => ?_) (fun x z => by cases z)))
      (fun a t ha => ?_) (fun x t hx => ex n s0 _ H0 x t g.ok hx)
    · have z := Except.ok.inj z
      rcases hfl with ⟨q, _⟩ | ⟨q, _⟩ | ⟨q, _⟩ <;> rw [q] at z <;> cases z
    · cases a with
      | next =>
        obtain ⟨σ', H', I, z, io', px⟩ := ha
        rcases hfl with ⟨q, q2⟩ | ⟨q, q2⟩ | ⟨q, q2⟩ <;> rw [q] at z <;> first | cases z | skip
        rw [show Flow.next = f.fl from (hf.trans q2).symm]
        exact post σ' H' io' px t I
      | brk =>
        obtain ⟨σ', H', I, z, io', px⟩ := ha
        rcases hfl with ⟨q, q2⟩ | ⟨q, q2⟩ | ⟨q, q2⟩ <;> rw [q] at z <;> first | cases z | skip
        rw [show Flow.brk = f.fl from (hf.trans q2).symm]
        exact post σ' H' io' px t I
      | cont =>
        obtain ⟨σ', H', I, z, io', px⟩ := ha
        rcases hfl with ⟨q, q2⟩ | ⟨q, q2⟩ | ⟨q, q2⟩ <;> rw [q] at z <;> first | cases z | skip
        rw [show Flow.cont = f.fl from (hf.trans q2).symm]
        exact post σ' H' io' px t I
      | ret u =>
        obtain ⟨v, σ', H', I, _, z⟩ := ha
        exact z.elim
  split at e
  · rename_i e1; cases e; exact key .nx .nx .next rfl e1 rfl rfl (.inl ⟨rfl, rfl⟩)
  · rename_i e1; cases e; exact key .bk .bk .brk rfl e1 rfl rfl (.inr (.inl ⟨rfl, rfl⟩))
  · rename_i e1; cases e; exact key .ct .ct .cont rfl e1 rfl rfl (.inr (.inr ⟨rfl, rfl⟩))
  · cases e
  · cases e
theorem gz_nil : GZm F (execs [] F.X.env) mGnil := by
  refine ⟨fun ws s f ws' s' e => by cases e; exact List.prefix_refl _, fun p hp ip n ws s0 c fs K J gd lv s σ H H0 Fr Bs sg f ws' sg' gc hn e pre ok ex g => ?_⟩
  subst hp
  cases e
  exact seg_execs_nil (ok n s0 s σ H H0 Fr Bs hn .refl g)
theorem gz_cons {st : Stmt} {rest : List Stmt} {a b : Gm} (ha : GZm F (exec st F.X.env) a) (hb : GZm F (execs rest F.X.env) b) : GZm F (execs (st :: rest) F.X.env) (mGseq a b) := by
  have mono : ∀ ws s f ws' s', mGseq a b ws s = some (.ok (f, ws'), s') → ∃ f1 ws1 s1, a ws s = some (.ok (f1, ws1), s1) ∧ ((f1 = .nx ∧ b ws1 s1 = some (.ok (f, ws'), s')) ∨ (f1 ≠ .nx ∧ f = f1 ∧ ws' = ws1 ∧ s' = s1)) := fun ws s f ws' s' e => by
    unfold mGseq at e
    split at e
    · rename_i ws1 s1 e1
      exact ⟨_, _, _, e1, .inl ⟨rfl, e⟩⟩
    · rename_i ws1 s1 e1
      cases e
      exact ⟨_, _, _, e1, .inr ⟨by simp, rfl, rfl, rfl⟩⟩
    · rename_i ws1 s1 e1
      cases e
      exact ⟨_, _, _, e1, .inr ⟨by simp, rfl, rfl, rfl⟩⟩
    · cases e
    · cases e
  refine ⟨fun ws s f ws' s' e => ?_, fun p hp ip n ws s0 c fs K J gd lv s σ H H0 Fr Bs sg f ws' sg' gc hn e pre ok ex g => ?_⟩
  · obtain ⟨f1, ws1, s1, e1, h⟩ := mono ws s f ws' s' e
    rcases h with ⟨_, e2⟩ | ⟨_, _, rfl, _⟩
    · exact (ha.mono _ _ _ _ _ e1).trans (hb.mono _ _ _ _ _ e2)
    · exact ha.mono _ _ _ _ _ e1
  subst hp
  obtain ⟨f1, ws1, s1, e1, h⟩ := mono ws sg f ws' sg' e
  refine seg_execs_cons ?_
  rcases h with ⟨rfl, e2⟩ | ⟨hne, rfl, rfl, rfl⟩
  · have pre1 := (hb.mono _ _ _ _ _ e2).trans pre
    exact ha.run p rfl ip n ws s0 c fs _ J gd lv s σ H H0 Fr Bs sg _ _ _ gc hn e1 pre1 (fun n1 t0 t σ1 H1 h0 Fr1 Bs1 hn1 l g1 => hb.run p rfl ip n1 ws1 t0 c fs K J gd lv t σ1 H1 h0 Fr1 Bs1 s1 _ _ _ gc hn1 e2 pre (fun n2 u0 u σ2 H2 h2 Fr2 Bs2 hn2 l2 g2 => ok n2 u0 u σ2 H2 h2 Fr2 Bs2 hn2 (l.trans l2) g2) ex g1) ex g
  · refine ha.run p rfl ip n ws s0 c fs _ J gd lv s σ H H0 Fr Bs sg _ _ _ gc hn e1 pre (fun n1 t0 t σ1 H1 h0 Fr1 Bs1 hn1 l g1 => ?_) ex g
    have := ok n1 t0 t σ1 H1 h0 Fr1 Bs1 hn1 l g1
    cases f with
    | nx => exact (hne rfl).elim
    | bk => exact this
    | ct => exact this
theorem gz_if {test : Expr} {body orelse : List Stmt} {pos : Pos} {mc : Mo Bool} {a b : Gm} {Wf : Shared → Hp → WX} (hc : ∀ s1 H1, F.ok s1 → Pet (F.at s1 H1) F.ea (Wf s1 H1) test mc) (ha : GZm F (execs body F.X.env) a) (hb : GZm F (execs orelse F.X.env) b) :
    GZm F (exec (.If test body orelse pos) F.X.env) (mGif (chkG mc) a b) := by
  refine ⟨fun ws s f ws' s' e => ?_, fun p hp ip n ws s0 c fs K J gd lv s σ H H0 Fr Bs sg f ws' sg' gc hn e pre ok ex g => ?_⟩
  · unfold mGif at e
    split at e
    · exact ha.mono _ _ _ _ _ e
    · exact hb.mono _ _ _ _ _ e
    · cases e
    · cases e
  subst hp
  rw [exec_If]
  show Seg _ p.A (RZ p) (YZ p) n s0 c (.at pos fun _ => ((isTrue test p.F.X.env (eval test p.F.X.env)) >>= fun b => if b = true then execs body p.F.X.env else execs orelse p.F.X.env).wrap K J gd lv) fs s
  refine seg_at ?_
  rw [Sem.bind_eq_wrap', Sem.wrap_wrap]
  refine seg_wrap ?_
  rw [gc.over]
  have go : ∀ (bb : Bool) (s1 : S), chkG mc sg = some (.ok bb, s1) → (if bb = true then a ws s1 else b ws s1) = some (.ok (f, ws'), sg') → wpAny p.F.M p.F.X.A (isTrue test p.F.X.env (eval test p.F.X.env)) (fun b1 t => Seg p.F.M p.A (RZ p) (YZ p) n s0 c (((if b1 = true then execs body p.F.X.env else execs orelse p.F.X.env)).wrap K J gd lv) fs t) (fun x t => Seg p.F.M p.A (RZ p) (YZ p) n s0 c (J x) fs t) s := by
    intro bb s1 e1 e2
    obtain ⟨e1, eG⟩ := chkG_some e1
    obtain ⟨t, q, r⟩ := (hc _ H0 g.ok).ex
    refine wpAny_mono (q.run ip s σ H (fun b1 H' => b1 = bb ∧ ∃ io', PostS p.F.X.K p.F.X.mg p.F.ea [] Fr sg σ H s1 σ io' H') g.inv
      (r σ H [] Fr sg g.sim _ _ e1 _ (fun b1 z H' io' px => ⟨(Except.ok.inj z).symm, io', px⟩) (fun x z => by cases z))) (fun b1 t hb1 => ?_) (fun x t hx => ex n s0 _ H0 x t g.ok hx)
    obtain ⟨H', I, rfl, io', px⟩ := hb1
    have := px.1.noIo eG
    subst this
    have g1 := g.step I px.1 px.2
    cases b1 with
    | true =>
      rw [if_pos rfl] at e2 ⊢
      exact ha.run p rfl ip n ws s0 c fs K J gd lv t σ H' H0 Fr Bs s1 _ _ _ gc hn e2 pre (fun n2 u0 u σ2 H2 h2 Fr2 Bs2 hn2 l2 g2 => ok n2 u0 u σ2 H2 h2 Fr2 Bs2 hn2 ((Lv.stp px.2).trans l2) g2) ex g1
    | false =>
      rw [if_neg Bool.false_ne_true] at e2 ⊢
      exact hb.run p rfl ip n ws s0 c fs K J gd lv t σ H' H0 Fr Bs s1 _ _ _ gc hn e2 pre (fun n2 u0 u σ2 H2 h2 Fr2 Bs2 hn2 l2 g2 => ok n2 u0 u σ2 H2 h2 Fr2 Bs2 hn2 ((Lv.stp px.2).trans l2) g2) ex g1
  unfold mGif at e
  split at e
  · rename_i e1; exact go true _ e1 e
  · rename_i e1; exact go false _ e1 e
  · cases e
  · cases e
theorem gz_yield {e : Expr} {yp pos : Pos} {me : Mo RV} {Wf : Shared → Hp → WX} (hex : F.X.ex = []) (he : ∀ s1 H1, F.ok s1 → Pee (F.at s1 H1) F.ea (Wf s1 H1) e me) (hco : F.X.env.scope.isCoroutine = false := by rfl) (hi : interactive F.X.env = false := by rfl) :
    GZm F (exec (.Expr (.Yield (some e) yp) pos) F.X.env) (mGy (chkG me)) := by
  have form : ∀ ws s f ws' s', mGy (chkG me) ws s = some (.ok (f, ws'), s') → ∃ w, ws.length < sz ∧ (bnd (chkG me) fun x => freeze (settle x)) s = some (.ok w, s') ∧ f = .nx ∧ ws' = ws ++ [w] := fun ws s f ws' s' h => by
    unfold mGy at h
    split at h
    · rename_i hz
      split at h
      · rename_i w s1 e1; cases h; exact ⟨w, hz, e1, rfl, rfl⟩
      · cases h
      · cases h
    · cases h
  refine ⟨fun ws s f ws' s' h => ?_, fun p hp ip n ws s0 c fs K J gd lv s σ H H0 Fr Bs sg f ws' sg' gc hn h pre ok ex g => ?_⟩
  · obtain ⟨w, _, _, _, rfl⟩ := form _ _ _ _ _ h
    exact List.prefix_append _ _
  subst hp
  obtain ⟨w, hz, e1, rfl, rfl⟩ := form _ _ _ _ _ h
  obtain ⟨n, rfl⟩ : ∃ m, n = m + 1 := ⟨n - 1, by rw [← sz_eq] at hz; omega⟩
  obtain ⟨t0, q, r⟩ := (he _ H0 g.ok).ex
  refine seg_Expr_Yield gc.split gc.gd gc.guard ?_ hco hi
  rw [gc.over]
  rcases bnd_some e1 with ⟨x, _, z⟩ | ⟨xr, s1, e2, e3⟩
  · cases z
  obtain ⟨e2, eG⟩ := chkG_some e2
  refine wpAny_mono (q.run ip s σ H (fun v H' => ∃ io', PostE p.F.X.K p.F.X.mg p.F.ea [] Fr sg σ H s1 io' H' xr v) g.inv
    (r σ H [] Fr sg g.sim _ _ e2 _ (fun x z v H' io' px => ⟨io', by cases z; exact px⟩) (fun x z => by cases z))) (fun u t hu => ?_) (fun x t hx => ex _ s0 _ H0 x t g.ok hx)
  obtain ⟨v, H1, I1, rv, io', px⟩ := hu
  obtain ⟨S1, T1, R1⟩ := px.settled
  have := S1.noIo eG
  subst this
  obtain ⟨eG2, l2, S2, w2, z, R2⟩ := freeze_ok S1 R1 e3
  cases z
  have T2 := T1.less l2
  have g1 := g.step I1 S2 T2
  intro kap hk
  have hv : RelV v u := rv
  have hout : p.out[ws.length]? = some w := by
    obtain ⟨r, hr⟩ := pre
    rw [← hr, List.append_assoc, List.getElem?_append_right (Nat.le_refl _)]
    simp
  refine ⟨ws.length, w, ip, sg', σ, H0, Fr, Bs, H1, v, hn, hout, g1, hv, R2, fun s2 H2 Fr2 wk SS l a => ?_⟩
  · refine hk .none s2 ?_
    have hl : (ws ++ [w]).length = ws.length + 1 := by simp
    have gw := g1.wake hex wk SS a
    rw [← hl] at gw
    exact ok n s2 s2 σ H2 H2 Fr2 (Own sg' σ) (by rw [hl]; omega) ((Lv.stp T2).trans l) gw
end
end Z
set_option linter.all false
set_option Elab.async false
set_option maxRecDepth 100000
namespace Z
open PySem PySem.Spec PyProof.Rows L2 GenW
section
variable {F : Fm}
theorem gcz_loop {A : Around} {c c' : Code} {fs : List Frame} {gd : Bool → Bool} {k : Result → Sem PySem.Fin} {l kp : List Value} {p : Pos} (g : GCz F A c fs gd) (hw : c'.weight = 0) (hu : c'.cUnits = 0) :
    GCz F A c' (.ret k none (gd false) l c p kp :: fs) id where
  over := (over_loop hw hu).trans g.over
  split := by
    show (splitAtGen fs).map _ = none
    rw [g.split]; rfl
  guard := by
    show (gd false || fs.any Frame.guarded) = false
    rw [g.gd, g.guard]; rfl
  gd := rfl
theorem segz_cameBack {A : Around} {R : GenEnd} {Y : Protocol} {c : Code} {fs : List Frame} {K : Flow → Sem PySem.Fin} {J : Value → Sem PySem.Fin} {gd : Bool → Bool} {lv : List Value → List Value} {n : Nat} {s₀ s : Shared} {e : Value} {xe : Value → Shared → Prop}
    (g : GCz F A c fs gd) (k : ∀ (e : Value) (t : Shared), xe e t → Seg F.M A R Y n s₀ c (J e) fs t) (h : cameBackBy F.M F.X.A F.X.env xe e s) :
    Seg F.M A R Y n s₀ c (((Sem.raise e : Sem Flow).onRaise (cameBack F.X.env)).wrap K J gd lv) fs s := by
  show Seg _ _ _ _ _ _ _ (((cameBack F.X.env e).bind fun _ => (Sem.raise e : Sem Flow)).wrap K J gd lv) _ _
  rw [Sem.bind_eq_wrap, Sem.wrap_wrap]
  refine seg_wrap ?_
  rw [g.over]
  exact wpAny_mono h (fun _ s' hx => k e s' hx) fun x s' hx => k x s' hx
theorem forG_mono {k : Wk} {b : W → Gm} (hb : ∀ w ws s f ws' s', b w ws s = some (.ok (f, ws'), s') → ws <+: ws') : ∀ (l : List W) (ws : List W) (s : S) (f : GF) (ws' : List W) (s' : S), forG k l b ws s = some (.ok (f, ws'), s') → ws <+: ws'
  | [], ws, s, f, ws', s', e => by
    unfold forG at e
    split at e
    · cases e; exact List.prefix_refl _
    · cases e
  | w :: l, ws, s, f, ws', s', e => by
    unfold forG at e
    split at e
    · split at e
      · rename_i e1; exact (hb _ _ _ _ _ _ e1).trans (forG_mono hb l _ _ _ _ _ e)
      · rename_i e1; exact (hb _ _ _ _ _ _ e1).trans (forG_mono hb l _ _ _ _ _ e)
      · rename_i e1; cases e; exact hb _ _ _ _ _ _ e1
      · cases e
      · cases e
    · cases e
theorem forG_fl {k : Wk} {b : W → Gm} : ∀ (l : List W) (ws : List W) (s : S) (f : GF) (ws' : List W) (s' : S), forG k l b ws s = some (.ok (f, ws'), s') → f = .nx
  | [], ws, s, f, ws', s', e => by
    unfold forG at e
    split at e
    · cases e; rfl
    · cases e
  | w :: l, ws, s, f, ws', s', e => by
    unfold forG at e
    split at e
    · split at e
      · exact forG_fl l _ _ _ _ _ e
      · exact forG_fl l _ _ _ _ _ e
      · cases e; rfl
      · cases e
      · cases e
    · cases e
theorem mGt_some {t : Mo Unit} {b : Gm} {ws : List W} {s s' : S} {r : Except Ex (GF × List W)} (hne : ∀ r s1, t s = some (r, s1) → r = .ok ()) (e : mGt t b ws s = some (r, s')) : ∃ s1, t s = some (.ok (), s1) ∧ b ws s1 = some (r, s') := by
  unfold mGt at e
  cases k : t s with
  | none => rw [k] at e; cases e
  | some pr =>
    obtain ⟨r1, s1⟩ := pr
    have := hne _ _ k
    subst this
    rw [k] at e
    exact ⟨s1, rfl, e⟩
theorem gz_for {tg iter : Expr} {body : List Stmt} {pos : Pos} {mi : Mo Wk} {t : W → Mo Unit} {b : Gm} {l : List Nat} {Wf : Shared → Hp → WX} (hpo : ∀ s1 H1, F.ok s1 → PassesOwn F.M F.X.A F.X.env (F.at s1 H1).xe) (hc : F.X.calm = true) (hi : ∀ s1 H1, F.ok s1 → Pei (F.at s1 H1) F.ea (Wf s1 H1) tg iter mi)
    (hg : ∀ s1 H1, F.ok s1 → Peg (F.at s1 H1) F.ea tg t l) (hb : GZm F (execs body F.X.env) b) (hs : ∀ x, foldedSetIterable iter F.X.env x = pure x := by intro _; rfl) :
    GZm F (exec (.For tg iter body [] pos) F.X.env) (mGfor (chkG mi) (fun w => chkG (t w)) b) := by
  have bm : ∀ w ws s f ws' s', mGt (chkG (t w)) b ws s = some (.ok (f, ws'), s') → ws <+: ws' := fun w ws s f ws' s' e => by
    unfold mGt at e
    split at e
    · exact hb.mono _ _ _ _ _ e
    · cases e
    · cases e
  refine ⟨fun ws s f ws' s' e => ?_, fun p hp ip n ws s0 c fs K J gd lv s σ H H0 Fr Bs sg f ws' sg' gc hn e pre ok ex g => ?_⟩
  · unfold mGfor at e
    split at e
    · exact forG_mono bm _ _ _ _ _ _ e
    · cases e
    · cases e
  subst hp
  unfold mGfor at e
  cases k0 : chkG mi sg with
  | none => rw [k0] at e; cases e
  | some pr =>
  obtain ⟨rk, s1⟩ := pr
  rw [k0] at e
  cases rk with
  | error x => cases e
  | ok kw =>
  have e : forG kw kw.ws (fun w => mGt (chkG (t w)) b) ws s1 = some (.ok (f, ws'), sg') := e
  obtain ⟨k0, eG⟩ := chkG_some k0
  have fnx := forG_fl _ _ _ _ _ _ e
  subst fnx
  obtain ⟨ti, hiq, hir⟩ := (hi _ H0 g.ok).ex
  refine seg_For ?_ hs
  rw [gc.over]
  refine wpAny_mono (hiq.run ip s σ H (fun J H' => ∃ io', PostS p.F.X.K p.F.X.mg p.F.ea [] Fr sg σ H s1 σ io' H' ∧ ItG p.F.X.K p.F.X.mg J kw io' (Ms io' Fr s1 σ) H') g.inv
    (hir σ H [] Fr sg g.sim _ _ k0 _ (fun k z J H' io' px G => ⟨io', by cases z; exact ⟨px, G⟩⟩) (fun x z => by cases z)))
    (fun v u1 h1 => wpAny_mono h1 (fun itv s2 h2 => ?_) fun x s' hx => ex n s0 _ H0 x s' g.ok hx) fun x s' hx => ex n s0 _ H0 x s' g.ok hx
  obtain ⟨it, fp, tn, Jt, H2, rfl, I2, T, st2, f2, io', px, G⟩ := h2
  have := px.1.noIo eG
  subst this
  intro pp lv'
  have g2 := g.step I2 px.1 px.2
  have gl := fun (kk : Result → Sem PySem.Fin) => gcz_loop (k := kk) (c' := .forLoop tg (.ref it) body [] p.F.X.env) (l := lv' []) (kp := []) (p := pp) gc rfl rfl
  have stat : ∀ {t0 : Shared} {h0 H' : Hp}, p.F.n ≤ t0.heap.objs.size → (∀ b ∈ fp, H' b = none) → ∀ b ∈ fp, FpOk (p.F.at (cutS t0 p.F.n) h0) ip H' b := fun {t0 h0 H'} hz hn b hb => by
    obtain ⟨_, q1, q2, q3, q4, q5⟩ := f2 b hb
    refine ⟨hn b hb, q1, q2, ?_, q4, q5⟩
    rcases q3 with q3 | q3
    · exact .inl q3
    · refine .inr ?_
      have e1 : (cutS s0 p.F.n).heap.objs.size = p.F.n := cutH_size g.sz
      have e2 : (cutS t0 p.F.n).heap.objs.size = p.F.n := cutH_size hz
      have q3 : (cutS s0 p.F.n).heap.objs.size ≤ b := q3
      show (cutS t0 p.F.n).heap.objs.size ≤ b
      rw [e2]
      rw [e1] at q3
      exact q3
  have loop : ∀ (m i n : Nat) (wsi : List W) (t0 s : Shared) (σi : L2.St) (h0 Hi : Hp) (Fri Bsi : Addr → Prop) (si : S), i + m = kw.ws.length → n + wsi.length = sizeLine → forG kw (kw.ws.drop i) (fun w => mGt (chkG (t w)) b) wsi si = some (.ok (.nx, ws'), sg') →
      GIz p wsi.length ip si σi t0 h0 Fri Bsi Hi s → Lv p.F.X.K p.F.X.mg Fr s1 σ H2 Fri si σi Hi → tn i s.heap → (∀ b ∈ fp, Hi b = none) →
      Seg p.F.M p.A (RZ p) (YZ p) n t0 (.forLoop tg (.ref it) body [] p.F.X.env) (p.F.M.den (.forLoop tg (.ref it) body [] p.F.X.env))
        (.ret (fun r => ((match r with | .ok f => (.pure f : Sem Flow) | .error e => .raise e).onRaise (cameBack p.F.X.env)).wrap K J gd lv) none (gd false) (lv' []) c pp [] :: fs) s := by
    intro m
    induction m with
    | zero =>
      intro i n wsi t0 s σi h0 Hi Fri Bsi si hm hn e3 gi L st fr
      have hi' : i = kw.ws.length := by omega
      subst hi'
      rw [List.drop_length] at e3
      unfold forG at e3
      split at e3
      rotate_left
      · cases e3
      rename_i ck
      cases e3
      refine seg_forLoop ?_
      rw [(gl _).over]
      refine wpAny_mono (T.done (p.F.at (cutS t0 p.F.n) h0) rfl rfl rfl hc _ ip s σi Hi (p.F.at (cutS t0 p.F.n) h0).xe gi.inv (stat gi.sz fr) st (G.stop _ _ _ L.p (cn_of gi.sim ck))) (fun r1 s4 ⟨hr, I4⟩ => ?_) fun x s' hx => ?_
      · subst hr
        refine seg_again rfl ?_
        exact seg_leaf (.ok .next) (ok n t0 s4 σi Hi h0 Fri Bsi hn ((Lv.stp px.2).trans L) ⟨gi.aw, gi.sz, I4, gi.sim, gi.stp⟩)
      · refine seg_wrap ?_
        rw [(gl _).over]
        refine wpAny_bind (wpAny_mono (hpo _ h0 gi.ok x s' hx) (fun _ s'' hcb => wpAny_theTreesLotGoes ?_) fun y s'' hcb => ?_)
        · exact seg_leaf (.error x) (segz_cameBack gc (fun e t hx => ex n t0 _ h0 e t gi.ok hx) hcb)
        · exact seg_leaf (.error y) (segz_cameBack gc (fun e t hx => ex n t0 _ h0 e t gi.ok hx) hcb)
    | succ m ih =>
      intro i n wsi t0 s σi h0 Hi Fri Bsi si hm hn e3 gi L st fr
      have hlt : i < kw.ws.length := by omega
      have ee : ∀ (n1 : Nat) (u0 u : Shared) (h : Hp) (x : Value) (s' : Shared), p.F.ok u → (p.F.at u h).xe x s' → Seg p.F.M p.A (RZ p) (YZ p) n1 u0 (.forLoop tg (.ref it) body [] p.F.X.env) (notesZ p.F.X.env x)
          (.ret (fun r => ((match r with | .ok f => (.pure f : Sem Flow) | .error e => .raise e).onRaise (cameBack p.F.X.env)).wrap K J gd lv) none (gd false) (lv' []) c pp [] :: fs) s' := fun n1 u0 u h x s' hu hx => by
        refine seg_wrap ?_
        rw [(gl _).over]
        refine wpAny_bind (wpAny_mono (hpo u h hu x s' hx) (fun _ s'' hcb => wpAny_theTreesLotGoes ?_) fun y s'' hcb => ?_)
        · exact seg_leaf (.error x) (segz_cameBack gc (fun e t hx => ex n1 u0 u h e t hu hx) hcb)
        · exact seg_leaf (.error y) (segz_cameBack gc (fun e t hx => ex n1 u0 u h e t hu hx) hcb)
      rw [drop_get hlt] at e3
      unfold forG at e3
      split at e3
      rotate_left
      · cases e3
      rename_i ck
      have cn := cn_of gi.sim ck
      obtain ⟨f1, ws1, s6, eb, hf⟩ : ∃ f1 ws1 s6, mGt (chkG (t kw.ws[i])) b wsi si = some (.ok (f1, ws1), s6) ∧ ((f1 ≠ .bk ∧ forG kw (kw.ws.drop (i + 1)) (fun w => mGt (chkG (t w)) b) ws1 s6 = some (.ok (.nx, ws'), sg')) ∨ (f1 = .bk ∧ ws' = ws1 ∧ sg' = s6)) := by
        split at e3
        · rename_i q; exact ⟨_, _, _, q, .inl ⟨by simp, e3⟩⟩
        · rename_i q; exact ⟨_, _, _, q, .inl ⟨by simp, e3⟩⟩
        · rename_i q; cases e3; exact ⟨_, _, _, q, .inr ⟨rfl, rfl, rfl⟩⟩
        · cases e3
        · cases e3
      have pre1 : ws1 <+: p.out := by
        rcases hf with ⟨_, q⟩ | ⟨_, q, _⟩
        · exact (forG_mono bm _ _ _ _ _ _ q).trans pre
        · exact q ▸ pre
      obtain ⟨tq, hgq, hgr⟩ := (hg _ h0 gi.ok).ex
      obtain ⟨s5m, ct, eb⟩ := mGt_some (fun r1 s1 q => hgr.ne _ _ _ _ (chkG_some q).1) eb
      obtain ⟨ct, eG5⟩ := chkG_some ct
      refine seg_forLoop ?_
      rw [(gl _).over]
      refine wpAny_mono (T.item (p.F.at (cutS t0 p.F.n) h0) rfl rfl rfl hc i ip s σi Hi (p.F.at (cutS t0 p.F.n) h0).xe gi.inv (stat gi.sz fr) st (G.go _ _ _ L.p cn i hlt)) (fun r1 s4 ⟨u, hr, h4⟩ => ?_) fun x s' hx => ee n t0 _ h0 x s' gi.ok hx
      subst hr
      refine wpAny_mono h4 (fun _ s5 ⟨x, H5, I5, r5, y5, st5, fr5⟩ => ?_) fun x s' hx => ee n t0 _ h0 x s' gi.ok hx
      have item : Sim p.F.X.K p.F.X.mg p.F.ea [] Fri si σi H5 ∧ Stp [] (Ms [] Fri si σi) Fri Hi [] (Ms [] Fri si σi) H5 ∧ Rw p.F.X.K p.F.X.mg [] (Ms [] Fri si σi) H5 kw.ws[i] x := by
        rcases G.yld _ _ _ L.p cn (fun a z => gi.sim.trkN z) i x H5 y5 kw.ws[i] (by simp [hlt]) with ⟨rfl, r⟩ | ⟨q, us, wq, hq, rfl, hw, rfl, r⟩
        · exact ⟨gi.sim, .refl, r⟩
        · obtain ⟨S3, T3⟩ := gi.sim.laid (o := .tup us) hq
          have r' := r.pers T3.p
          refine ⟨S3, T3, ?_⟩
          rw [hw]
          refine .tup (.inl ⟨upd_same, fun z => ?_⟩) r'.1 r'.2
          obtain ⟨u, e⟩ := gi.sim.trk z
          rw [hq] at e; cases e
      obtain ⟨S5, T5, R5⟩ := item
      have I5' := I5.pinned (stat gi.sz fr5) (T.obj _ _ st5)
      refine wpAny_mono (hgq.run _ s5 σi H5 x u (fun σ6 H6 => H6 = H5 ∧ Sim p.F.X.K p.F.X.mg p.F.ea [] Fri s5m σ6 H5 ∧ ∀ b, Ms [] Fri s5m σ6 b → Ms [] Fri si σi b) I5' r5
        (hgr.go σi H5 [] Fri si _ x S5 R5 _ _ ct _ fun σ6 S6 l6 _ _ => ⟨rfl, S6, l6⟩)) (fun _ s6' h6 => ?_) fun x s' hx => ee n t0 _ h0 x s' gi.ok hx
      obtain ⟨σ6, H6, I6, rfl, S6, l6⟩ := h6
      have T6 : Stp [] (Ms [] Fri si σi) Fri Hi [] (Ms [] Fri s5m σ6) H6 := T5.less l6
      have g6 : GIz p wsi.length (ip ++ pinsAt fp s5.heap) s5m σ6 t0 h0 Fri Bsi H6 s6' := gi.step I6 S6 T6
      have gcb : ∀ kk : Result → Sem PySem.Fin, GCz p.F p.A (.forLoop tg (.ref it) body [] p.F.X.env) (.ret kk none (gd false) (lv' []) c pp [] :: fs) id := fun kk => gl kk
      refine hb.run p rfl (ip ++ pinsAt fp s5.heap) n wsi t0 _ _ _ _ id id s6' σ6 H6 h0 Fri Bsi s5m f1 ws1 s6 (gcb _) hn eb pre1 (fun n1 u0 v σ7 H7 h7 Fr7 Bs7 hn1 l7 g7 => ?_) (fun n1 u0 v h x s' hv hx => ee n1 u0 v h x s' hv hx) g6
      have g7' : GIz p ws1.length ip s6 σ7 u0 h7 Fr7 Bs7 H7 v := ⟨g7.aw, g7.sz, g7.inv.pins_of fun z hz => g7.inv.pin z (List.mem_append_right _ (List.mem_append_left _ hz)), g7.sim, g7.stp⟩
      have st7 : tn (i + 1) v.heap := T.keep _ _ _ st5 fun b hb o e => (g7.inv.pin (b, o) (List.mem_append_right _ (List.mem_append_right _ (mem_pinsAt hb e)))).1
      have fr7 : ∀ b ∈ fp, H7 b = none := fun b hb => by
        obtain ⟨o, e, d⟩ := T.obj _ _ st5 b hb
        exact (g7.inv.pin (b, o) (List.mem_append_right _ (List.mem_append_right _ (mem_pinsAt hb e)))).2.1
      have L7 := L.trans ((Lv.stp T6).trans l7)
      rcases hf with ⟨hne, q⟩ | ⟨rfl, rfl, rfl⟩
      · cases f1 with
        | nx => exact seg_again rfl (ih (i + 1) n1 ws1 u0 v σ7 h7 H7 Fr7 Bs7 s6 (by omega) hn1 q g7' L7 st7 fr7)
        | ct => exact seg_again rfl (ih (i + 1) n1 ws1 u0 v σ7 h7 H7 Fr7 Bs7 s6 (by omega) hn1 q g7' L7 st7 fr7)
        | bk => exact (hne rfl).elim
      · exact seg_leaf (.ok .next) (ok n1 u0 v σ7 H7 h7 Fr7 Bs7 hn1 ((Lv.stp px.2).trans L7) g7')
  exact loop kw.ws.length 0 n ws s0 s2 σ H0 H2 Fr Bs s1 (by omega) hn (by simpa using e) g2 .refl st2 fun b hb => (f2 b hb).1
end
end Z
set_option linter.all false
set_option Elab.async false
set_option maxRecDepth 100000
namespace Z
open PySem PySem.Spec PyProof.Rows L2 GenW
def EF : XK := fun _ _ _ => False
abbrev gcz (P : Program) (w : World) (K : PySem.W.Frag) (mg : Str → Option Value) (base : Heap) (N : List Str) (qual : Str) (sc : Scope) (f : Addr) (cd : Value) (A : Around) (outer : List Env) (pn : List (Addr × Obj)) (s : Shared) (H : Hp) : Cx := gcxOf P w K mg base N qual sc f cd A outer s H EF pn
def famOf (P : Program) (w : World) (K : PySem.W.Frag) (mg : Str → Option Value) (base : Heap) (N : List Str) (qual : Str) (sc : Scope) (f : Addr) (cd : Value) (A : Around) (outer : List Env) (pn : List (Addr × Obj)) (s : Shared) (H : Hp) : Fm :=
  ⟨gcz P w K mg base N qual sc f cd A outer pn s H, fun s1 H1 => (gcz P w K mg base N qual sc f cd A outer pn s1 H1).xe, ea0⟩
section
variable {P : Program} {w : World} {K : PySem.W.Frag} {mg : Str → Option Value} {base : Heap} {N : List Str} {qual : Str} {sc : Scope} {f : Addr} {cd : Value} {A : Around} {outer : List Env} {pn : List (Addr × Obj)} {s : Shared} {H : Hp}
theorem fam_at {s1 : Shared} {H1 : Hp} (h : (famOf P w K mg base N qual sc f cd A outer pn s H).ok s1) : (famOf P w K mg base N qual sc f cd A outer pn s H).at s1 H1 = gcz P w K mg base N qual sc f cd A outer pn s1 H1 := by
  have h : s1.heap.objs.size = s.heap.objs.size := h
  show reb (gcz P w K mg base N qual sc f cd A outer pn s H) s1 H1 (gcz P w K mg base N qual sc f cd A outer pn s1 H1).xe = _
  generalize hq : (gcz P w K mg base N qual sc f cd A outer pn s1 H1).xe = xe
  unfold gcz gcxOf cxOf at hq ⊢
  rw [← hq]
  dsimp only
  rw [← h]
structure Leaf (k : Nat) (P : Program) (w : World) (K : PySem.W.Frag) (mg : Str → Option Value) (base : Heap) (N : List Str) (qual : Str) (sc : Scope) (f : Addr) (cd : Value) (A : Around) (outer : List Env) (pn : List (Addr × Obj)) (s : Shared) (H : Hp) : Prop where
  hr : Room k (A.deeper (envOfC qual sc s.heap.objs.size f cd))
  hu : (A.deeper (envOfC qual sc s.heap.objs.size f cd)).units + 150 < cLine
  tk : Takes (gcz P w K mg base N qual sc f cd A outer pn s H) (fun cls d _ H => EF cls d H)
  pa : PassesOwn (model P w) (A.deeper (envOfC qual sc s.heap.objs.size f cd)) (envOfC qual sc s.heap.objs.size f cd) (gcz P w K mg base N qual sc f cd A outer pn s H).xe
variable {k : Nat}
theorem leaf_of (hr : Room k (A.deeper (envOfC qual sc s.heap.objs.size f cd))) : Leaf k P w K mg base N qual sc f cd A outer pn s H := ⟨hr, by have := hr.un; omega, takes_gcx, owns_gcx⟩
theorem fam_all {Q : Cx → Prop} (hr : Room k (A.deeper (envOfC qual sc s.heap.objs.size f cd))) (h : ∀ s1 H1, Leaf k P w K mg base N qual sc f cd A outer pn s1 H1 → Q (gcz P w K mg base N qual sc f cd A outer pn s1 H1)) : ∀ s1 H1, (famOf P w K mg base N qual sc f cd A outer pn s H).ok s1 → Q ((famOf P w K mg base N qual sc f cd A outer pn s H).at s1 H1) := fun s1 H1 ok => by
  rw [fam_at ok]
  have ok : s1.heap.objs.size = s.heap.objs.size := ok
  exact h s1 H1 (leaf_of (by rw [ok]; exact hr))
theorem fam_s {st : Stmt} {m : Mo Fl} (hr : Room k (A.deeper (envOfC qual sc s.heap.objs.size f cd))) (h : ∀ s1 H1, Leaf k P w K mg base N qual sc f cd A outer pn s1 H1 → Pes (gcz P w K mg base N qual sc f cd A outer pn s1 H1) ea0 (fun cls d _ H => EF cls d H) st m) :
    GZm (famOf P w K mg base N qual sc f cd A outer pn s H) (exec st (famOf P w K mg base N qual sc f cd A outer pn s H).X.env) (mGp (chkG m)) :=
  gz_plain (Wf := fun _ _ cls d _ H => EF cls d H) (fam_all (Q := fun X => Pes X ea0 (fun cls d _ H => EF cls d H) st m) hr h)
theorem fam_if {test : Expr} {body orelse : List Stmt} {pos : Pos} {mc : Mo Bool} {a b : Gm} (hr : Room k (A.deeper (envOfC qual sc s.heap.objs.size f cd))) (h : ∀ s1 H1, Leaf k P w K mg base N qual sc f cd A outer pn s1 H1 → Pet (gcz P w K mg base N qual sc f cd A outer pn s1 H1) ea0 (fun cls d _ H => EF cls d H) test mc)
    (ha : GZm (famOf P w K mg base N qual sc f cd A outer pn s H) (execs body (famOf P w K mg base N qual sc f cd A outer pn s H).X.env) a) (hb : GZm (famOf P w K mg base N qual sc f cd A outer pn s H) (execs orelse (famOf P w K mg base N qual sc f cd A outer pn s H).X.env) b) :
    GZm (famOf P w K mg base N qual sc f cd A outer pn s H) (exec (.If test body orelse pos) (famOf P w K mg base N qual sc f cd A outer pn s H).X.env) (mGif (chkG mc) a b) :=
  gz_if (Wf := fun _ _ cls d _ H => EF cls d H) (fam_all (Q := fun X => Pet X ea0 (fun cls d _ H => EF cls d H) test mc) hr h) ha hb
theorem fam_for {tg iter : Expr} {body : List Stmt} {pos : Pos} {mi : Mo Wk} {t : W → Mo Unit} {b : Gm} {l : List Nat} (hr : Room k (A.deeper (envOfC qual sc s.heap.objs.size f cd))) (hi : ∀ s1 H1, Leaf k P w K mg base N qual sc f cd A outer pn s1 H1 → Pei (gcz P w K mg base N qual sc f cd A outer pn s1 H1) ea0 (fun cls d _ H => EF cls d H) tg iter mi)
    (hg : ∀ s1 H1, Leaf k P w K mg base N qual sc f cd A outer pn s1 H1 → Peg (gcz P w K mg base N qual sc f cd A outer pn s1 H1) ea0 tg t l)
    (hb : GZm (famOf P w K mg base N qual sc f cd A outer pn s H) (execs body (famOf P w K mg base N qual sc f cd A outer pn s H).X.env) b) (hs : ∀ x, foldedSetIterable iter (famOf P w K mg base N qual sc f cd A outer pn s H).X.env x = pure x := by intro _; rfl) :
    GZm (famOf P w K mg base N qual sc f cd A outer pn s H) (exec (.For tg iter body [] pos) (famOf P w K mg base N qual sc f cd A outer pn s H).X.env) (mGfor (chkG mi) (fun w => chkG (t w)) b) :=
  gz_for (Wf := fun _ _ cls d _ H => EF cls d H) (fam_all (Q := fun X => PassesOwn (model X.prog X.w) X.A X.env X.xe) hr fun s1 H1 l => l.pa) rfl (fam_all (Q := fun X => Pei X ea0 (fun cls d _ H => EF cls d H) tg iter mi) hr hi) (fam_all (Q := fun X => Peg X ea0 tg t l) hr hg) hb hs
theorem fam_yield {e : Expr} {yp pos : Pos} {me : Mo RV} (hr : Room k (A.deeper (envOfC qual sc s.heap.objs.size f cd))) (h : ∀ s1 H1, Leaf k P w K mg base N qual sc f cd A outer pn s1 H1 → Pee (gcz P w K mg base N qual sc f cd A outer pn s1 H1) ea0 (fun cls d _ H => EF cls d H) e me)
    (hco : sc.isCoroutine = false := by rfl) (hi : interactive (envOfC qual sc s.heap.objs.size f cd) = false := by rfl) :
    GZm (famOf P w K mg base N qual sc f cd A outer pn s H) (exec (.Expr (.Yield (some e) yp) pos) (famOf P w K mg base N qual sc f cd A outer pn s H).X.env) (mGy (chkG me)) :=
  gz_yield (Wf := fun _ _ cls d _ H => EF cls d H) rfl (fam_all (Q := fun X => Pee X ea0 (fun cls d _ H => EF cls d H) e me) hr h) hco hi
end
def MadeZ (P : Program) (w : World) (K : PySem.W.Frag) (mg : Str → Option Value) (base : Heap) (k : Nat) (outer : List Env) (H : Hp) (s : Shared) (vs : List V) (m : List W → Option (List W)) (u : Value) (s' : Shared) : Prop :=
  ∃ (a : Addr) (g : Nat) (c : Code) (N : List Str) (qual : Str) (sc : Scope) (f : Addr) (cd : Value) (go : Obj), u = .ref a ∧ s.heap.objs.size < a ∧ a < s'.heap.objs.size ∧ s'.gens[g]? = some (.fresh c) ∧ s'.os = s.os ∧ AllBare s'.gens ∧ s'.heap.NoLimit ∧ (∀ b o, s.heap.get? b = some o → s'.heap.get? b = some o) ∧
    s'.heap.get? a = some go ∧ (∀ h : Heap, h.get? a = some go → h.IsGen a g) ∧ (∀ v, go.data ≠ .cell v) ∧
    ∀ (A : Around), Room k A → A.frames = some outer → ∀ (ws out : List W) (Aw : Nat → Hp → Shared → (Addr → Prop) → (Addr → Prop) → Prop) (Fr : Addr → Prop), m ws = some out → Rws K mg [] (Mu [] Fr) H ws vs → (∀ a, Fr a → ∃ o, H a = some o ∧ Nt o) →
      ∀ s2 : Shared, (∀ b o, s'.heap.get? b = some o → s2.heap.get? b = some o) → s2.os = s.os → AllBare s2.gens → Env0 P w K mg base A outer s2 H → Aw 0 H s2 Fr (fun _ => False) →
        Seg (model P w) A (RZ ⟨famOf P w K mg base N qual sc f cd A outer [(a, go)] s H, A, out, Aw⟩) (YZ ⟨famOf P w K mg base N qual sc f cd A outer [(a, go)] s H, A, out, Aw⟩) sizeLine s2 c ((model P w).den c) [] s2
structure GZFn (P : Program) (w : World) (K : PySem.W.Frag) (mg : Str → Option Value) (base : Heap) (k : Nat) (f : Addr) (fd : FuncData) (ps : List Str) (m : List W → Option (List W)) : Prop where
  run : ∀ (A : Around) (outer : List Env) (s : Shared) (H : Hp) (args : Args) (us : List Value) (vs : List V), Room k A → Env0 P w K mg base A outer s H → BindsTo s fd args (ps.zip us) → Vals vs us → vs.length = ps.length →
    codeAny (model P w) A (.call (.ref f) args) (fun r s' => match r with | .ok (.ret u) => MadeZ P w K mg base k outer H s vs m u s' | _ => False) s
def genZ (n : Nat) (body : Gm) : List W → Option (List W) := fun ws => match body [] ⟨ws.map SV.val ++ List.replicate (n - ws.length) SV.non, []⟩ with
  | some (.ok (.nx, out), s) => some out
  | _ => none
section
variable {P : Program} {w : World} {K : PySem.W.Frag} {mg : Str → Option Value} {base : Heap}
theorem defZ {x qual : Str} {st : Stmt} {f : Addr} {fd : FuncData} {N ps : List Str} {k n : Nat} {body : Gm} (F : Fun K x qual st f fd) (S : GScope N ps (defScope st)) (hn : N.length = n)
    (hb : ∀ (cdv : Value) (A : Around) (outer : List Env) (pn : List (Addr × Obj)) (s : Shared) (H : Hp), Room k (A.deeper (envOfC qual (defScope st) s.heap.objs.size f cdv)) →
      GZm (famOf P w K mg base N qual (defScope st) f cdv A outer pn s H) (execs (defBody st) (famOf P w K mg base N qual (defScope st) f cdv A outer pn s H).X.env) body) : GZFn P w K mg base (k + 1) f fd ps (genZ n body) := by
  obtain ⟨⟨oc, od, kV, doc, pm, an, cdv, ct, osl, rfl, lk, hcd⟩, _⟩ := F
  refine ⟨fun A outer s H args us vs hr e0 hbi r hl => ?_⟩
  have KX : K.In s.heap := e0.mod.kin.keeps fun b o e => (e0.bs b o e).1
  have lim : s.heap.NoLimit := e0.mod.nolimit.keeps fun b o e => (e0.bs b o e).1
  have hkind : ∀ y ∈ ps.zip us, (defScope st).names.lookup y.1 = some .local ∨ ((defScope st).names.lookup y.1 = some .cell ∧ ((cellsFrom (s.heap.objs.size + 1) (defScope st).names []).lookup y.1).isSome = true) := fun ⟨n, v⟩ hy => by
    rcases S.par n (List.of_mem_zip hy).1 with q | q
    · exact .inl q
    · exact .inr ⟨q, PySem.W.cellsFrom_some _ _ _ (.inl q)⟩
  refine codeAny_call_generator hr.depth (KX _ _ lk) rfl S.co S.gen rfl (PySem.W.codeRec_of KX hcd) (hbi _ _ _ _ ?_)
  refine wpAny_newFunctionEnv_cells S.kind hkind fun env he s1 x => ?_
  subst he
  have lim1 : s1.heap.NoLimit := lim.keeps x.toInCall.keep
  refine ⟨lim1, ?_⟩
  obtain ⟨h1, tk, es1, hk1⟩ := x.done
  have os1 : s1.os = s.os := by rw [es1]
  have gen1 : s1.gens = s.gens := by rw [es1]
  have lt1 : s.heap.objs.size < s1.heap.objs.size := x.toInCall.ns.lt
  have kp1 : ∀ b o, s.heap.get? b = some o → s1.heap.get? b = some o := x.toInCall.keep
  have main : ∀ (go : Obj) (nm qn : Value) (tk2 : Nat), go.cls = .type "generator" → go.data = .fields #[.int s1.gens.size 0, nm, qn] → go.slots = #[] → (∀ h : Heap, (h.push go).get? h.objs.size = some go) →
      MadeZ P w K mg base (k + 1) outer H s vs (genZ n body) (.ref s1.heap.objs.size) { s1 with gens := s1.gens.push (.fresh (.func (defBody st) (envOfC qual (defScope st) s.heap.objs.size f cdv))), toks := tk2, heap := s1.heap.push go } := by
    intro go nm qn tk2 hgc hgd0 hgs hgp
    have hgen : ∀ h : Heap, h.get? s1.heap.objs.size = some go → h.IsGen s1.heap.objs.size s1.gens.size := fun h e => ⟨go, nm, qn, e, hgc, hgd0, hgs⟩
    have hpushed : (s1.heap.push go).get? s1.heap.objs.size = some go := hgp _
    have hgd : ∀ v, go.data ≠ .cell v := fun v q => by rw [hgd0] at q; cases q
    refine ⟨s1.heap.objs.size, s1.gens.size, _, N, qual, defScope st, f, cdv, go, rfl, lt1, ?_, Array.getElem?_push_size .., os1, ?_, lim1.keeps fun b o e => Heap.get?_push_of_some _ e, fun b o e => Heap.get?_push_of_some _ (kp1 b o e), hpushed, hgen, hgd, ?_⟩
    · show _ < (s1.heap.push _).objs.size
      rw [Heap.size_push]; exact Nat.lt_succ_self _
    · exact AllBare.push (by rw [gen1]; exact e0.bare) rfl
    intro Aw hrw hfr ws out Wake Fr hm R tr s2 hk2 hos hba e2 hA
    have e0w : Env0 P w K mg base Aw outer s H := ⟨hfr, e0.mod, e0.bs, e0.bsz, e0.funs, e0.frf, e0.hok, e0.bare⟩
    have I1 : Inv (gcxOf P w K mg base N qual (defScope st) f cdv Aw outer s H EF []) [] (start N vs) H s1 := inv_startG S hrw.hd e0w hl r x
    have kp2 : ∀ b o, s1.heap.get? b = some o → s2.heap.get? b = some o := fun b o e => hk2 b o (Heap.get?_push_of_some _ e)
    have I2 : Inv (gcxOf P w K mg base N qual (defScope st) f cdv Aw outer s H EF []) [] (start N vs) H s2 :=
      I1.call' (ch := []) (hos.trans os1.symm) (Un.kept kp2) (I1.hok.kept kp2) hba fun b z => by simp at z
    have hea : s2.heap.get? s1.heap.objs.size = some go := hk2 s1.heap.objs.size go hpushed
    have I3 : Inv (gcz P w K mg base N qual (defScope st) f cdv Aw outer [(s1.heap.objs.size, go)] s H) [] (start N vs) H s2 := Inv.pinnedG I2 fun p hp => by
      rw [List.append_nil] at hp
      rw [List.mem_singleton.mp hp]
      exact ⟨hea, I1.hok.fresh (Nat.le_refl _), Nat.ne_of_gt lt1, I1.nofs (Nat.le_refl _), hgd⟩
    have sz2 : s.heap.objs.size ≤ s2.heap.objs.size := by
      have := Heap.lt_size hea
      exact Nat.le_of_lt (Nat.lt_trans lt1 this)
    have I4 := Inv.rebase (n := s.heap.objs.size) (s2 := s2) (H2 := H) (xe := (famOf P w K mg base N qual (defScope st) f cdv Aw outer [(s1.heap.objs.size, go)] s H).xf (cutS s2 s.heap.objs.size) H) I3 rfl rfl e2.hok hba e2.bs e2.funs e2.frf sz2 (fun o e => e) I3.free (fun x c e => ⟨I3.freeC x c e, fun o e => e⟩) (fun p hp => ⟨(I3.pin p hp).1, (I3.pin p hp).2.1⟩)
    unfold genZ at hm
    have hps : ps.length ≤ n := by
      have := congrArg List.length S.pre
      rw [List.length_take] at this
      omega
    have gs : GSim K mg [] Fr [] H := ⟨rfl, fun n a c e => by simp at e, List.nodup_nil, fun a ha => by simp at ha, tr⟩
    obtain ⟨S0, mo⟩ := sim_start (ea := ea0) (s := ⟨[], []⟩) hn (by omega) gs R
    split at hm
    rotate_left
    · cases hm
    rename_i out' sf eb
    cases hm
    have g0 : GIz ⟨famOf P w K mg base N qual (defScope st) f cdv Aw outer [(s1.heap.objs.size, go)] s H, Aw, out, Wake⟩ ([] : List W).length [] ⟨ws.map SV.val ++ List.replicate (n - ws.length) SV.non, []⟩ (start N vs) s2 H Fr (fun _ => False) H s2 :=
      ⟨hA, sz2, I4, S0, ⟨⟨fun _ _ e _ => e, fun a z => by
        rcases (mo a).1 z with q | q
        · simp at q
        · exact .inl (.inl q), fun _ _ e => e⟩, fun _ _ => rfl, fun _ o e => ⟨o, e⟩⟩⟩
    refine seg_func ?_
    have main := (hb cdv Aw outer [(s1.heap.objs.size, go)] s H (hrw.deeper _)).run ⟨famOf P w K mg base N qual (defScope st) f cdv Aw outer [(s1.heap.objs.size, go)] s H, Aw, out, Wake⟩ rfl [] sizeLine [] s2 (.func (defBody st) (envOfC qual (defScope st) s.heap.objs.size f cdv)) []
      (fun f => .pure (.done (.ret (match f with | .ret v => v | _ => .none)))) (fun e => (leaving (envOfC qual (defScope st) s.heap.objs.size f cdv) e).wrap (fun _ => .raise e) .raise id id) id id s2 (start N vs) H H Fr (fun _ => False) _ _ _ _ ⟨over_func, rfl, rfl, rfl⟩ (Nat.add_zero _) eb (List.prefix_refl _)
      (fun n1 t0 t σ1 H1 h0 Fr1 Bs1 hn1 l g1 => ?_) (fun n1 t0 u h e t hu hx => ?_) g0
    · exact main
    · exact seg_end (.ok (.ret .none)) (.inl ⟨.inl rfl, _, σ1, h0, Fr1, Bs1, H1, hn1, g1⟩)
    · refine seg_wrap ?_
      rw [over_func]
      have hu : u.heap.objs.size = s.heap.objs.size := hu
      have hx : wpAny (model P w) (Aw.deeper (envOfC qual (defScope st) u.heap.objs.size f cdv)) (leaving (envOfC qual (defScope st) u.heap.objs.size f cdv) e) (fun _ s'' => CX P w outer h u EF e s'' ∧ ∀ p ∈ [(s1.heap.objs.size, go)], s''.heap.get? p.1 = some p.2) (fun _ _ => False) t := hx
      rw [hu] at hx
      refine wpAny_mono hx (fun _ s'' q => ?_) fun _ s'' q => q.elim
      obtain ⟨⟨_, _, _, _, _, _, _, _, _, _, _, _, z⟩, _⟩ := q
      exact z.elim
  exact main _ _ _ _ rfl rfl rfl fun h => Heap.get?_push_size _ rfl
end
end Z
set_option linter.all false
set_option Elab.async false
set_option maxRecDepth 100000
namespace Z
open PySem PySem.Spec PyProof.Rows L2 GenW
def Nxt (M : Model) (A : Around) (R : GenEnd) (Y : Protocol) (gs : GenState) : Nat → Resume → Shared → Prop
  | 0 => fun _ _ => False
  | m + 1 => fun r u => gs.Goes M A R Y m r u
section
variable {M : Model} {A : Around} {E : Value → Shared → Prop} {s : Shared}
theorem resume_sus {R : GenEnd} {Y : Protocol} {n g : Nat} {gs : GenState} {r : Resume} {l : List Value} {α : Type} {k : GenResult → Sem α} {Q : α → Shared → Prop} (hg : s.gens[g]? = some gs) (hgo : gs.Goes M A R Y n r (s.setGen g .running))
    (hR : ∀ x t, R n (s.setGen g .running) x t → wpAny M A (k (End.ret x).result) Q E (t.setGen g .finished))
    (hY : ∀ v t gs', gs'.bare = true → Sus gs' → Y (n - 1) (s.setGen g .running) v t (Nxt M A R Y gs' n) → wpAny M A (k (.yielded v)) Q E (t.setGen g gs')) :
    wpAny M A (.resume g r l k) Q E s := by
  intro Γ p hΓ
  rw [Sem.wp_resume]
  have go : ∀ e t, SegEnd R Y n (Seg.next M A R Y n) (s.setGen g .running) e t → e.quiet = true ∧ Sem.wp M Γ (k e.result) (fun a _ u => Q a u) (fun x _ u => E x u) p (t.setGen g e.genState) := fun e t he => by
    cases e with
    | ret x => exact ⟨rfl, hR x t he Γ p hΓ⟩
    | susp v h0 l0 k0 c0 p0 f0 =>
      refine ⟨he.1, hY v t _ (End.bare_of_quiet he.1) ⟨_, _, _, _, _, _, rfl⟩ ?_ Γ p hΓ⟩
      cases n with
      | zero => exact he.2
      | succ m => exact he.2
  cases gs with
  | running => exact hgo.elim
  | finished => exact hgo.elim
  | fresh c =>
    obtain ⟨rfl, hs⟩ := hgo
    obtain ⟨e, t, hr, he⟩ := seg_iff.mp hs (Γ.wake c p) p rfl (hΓ.wake c p)
    obtain ⟨q, z⟩ := go e t he
    exact ⟨_, _, by unfold Wakes; rw [hg]; exact ⟨e, t, hr, q, rfl, rfl⟩, z⟩
  | suspended k0 l0 c0 p0 f0 cl =>
    obtain ⟨e, t, hr, he⟩ := seg_iff.mp hgo (Γ.wake c0 p) p0 rfl (hΓ.wake c0 p)
    obtain ⟨q, z⟩ := go e t he
    exact ⟨_, _, by unfold Wakes; rw [hg]; exact ⟨e, t, hr, q, rfl, rfl⟩, z⟩
end
section
variable {P : Program} {w : World} {A : Around} {E : Value → Shared → Prop} {s : Shared}
theorem next_sus {a : Addr} {g n : Nat} {gs : GenState} {F : Nat → Shared → Shared → Prop} {Y : Protocol} {Q : Option Value → Shared → Prop} (hh : A.handled = none) (hl : s.heap.NoLimit) (hroom : A.depth < recursionLimit) (hg : s.heap.IsGen a g) (hgs : s.gens[g]? = some gs)
    (hgo : gs.Goes (model P w) A.in1 (fun n s₀ r s₁ => ((r = .ok (.ret .none) ∨ r = .ok .next) ∧ F n s₀ s₁) ∨ ∃ e, r = .error e ∧ (fun (_ : Value) (_ : Shared) => False) e s₁) Y n (.send .none) (s.setGen g .running))
    (hY : ∀ v t gs', gs'.bare = true → Sus gs' → Y (n - 1) (s.setGen g .running) v t (Nxt (model P w) A.in1 (fun n s₀ r s₁ => ((r = .ok (.ret .none) ∨ r = .ok .next) ∧ F n s₀ s₁) ∨ ∃ e, r = .error e ∧ (fun (_ : Value) (_ : Shared) => False) e s₁) Y gs' n) → Q (some v) (t.setGen g gs'))
    (hP : ∀ t, F n (s.setGen g .running) t → ∀ h', (∀ b o, t.heap.get? b = some o → h'.get? b = some o) → Q none { t.setGen g .finished with heap := h' }) :
    wpAny (model P w) A (pyNext (.ref a)) Q E s := by
  unfold pyNext
  refine wpAny_bind (wpAny_attempt (wpAny_callSpecial?_slot (name := Str.ofString "__next__") hg.typeIs slot_gen_next
    (wpAny_call_entry slot_gen_next hg.typeIs entry_gen_next ?_ (args_gen_next _))))
  show wpAny _ A.in1 (Builtin.Generator.genWake (.ref a) (.send .none)) _ _ s
  unfold Builtin.Generator.genWake
  refine wpAny_bind (wpAny_holding (wpAny_genNumber hg (wpAny_bind (wpAny_genState hgs ?_))))
  cases gs with
  | running => exact hgo.elim
  | finished => exact hgo.elim
  | _ =>
    refine wpAny_bind (wpAny_roomToWake hl hroom ?_)
    show wpAny _ A.in1 (.resume g (.send .none) [] _) _ _ s
    refine resume_sus hgs hgo (fun x t hx => ?_) (fun v t gs' hb hs hv => wpAny_pure ⟨v, rfl, wpAny_pure (hY v t gs' hb hs hv)⟩)
    rcases hx with ⟨hr, hp⟩ | ⟨e, _, he⟩
    rotate_left
    · exact he.elim
    have hres : End.result (.ret x) = .returned .none := by rcases hr with hr | hr <;> rw [hr] <;> rfl
    first | rw [hres] | simp only [hres]
    show wpAny _ A.in1 (newExc (.type "StopIteration") [] >>= _) _ _ _
    refine wpAny_bind ?_
    simp only [newExc, newTuple]
    refine wpAny_bind (wpAny_newObj_type ?_ (by size_fits))
    refine wpAny_bind (m := firstArgMember _ _) (wpAny_of_eq (a := Value.none) (by first | rfl | (simp only [firstArgMember]; rfl)) ?_)
    refine wpAny_newObj_type ?_ (by size_fits)
    simp only [raiseNew]
    refine wpAny_bind (wpAny_bind (wpAny_handled ?_))
    first | rw [show A.in1.handled = none from hh] | rw [hh]
    refine wpAny_throw ?_
    refine wpAny_bind (wpAny_isInstance (T := "StopIteration") (b := true) ⟨_, Heap.get?_push_size _ rfl, rfl⟩ isSubtype_stop ?_)
    exact wpAny_pure (hP t hp _ fun b o hb => Heap.get?_push_of_some _ (Heap.get?_push_of_some _ hb))
end
theorem wpAny_sl {α : Type} {M : Model} {A : Around} {tr : Sem α} {Q : α → Shared → Prop} {E : Value → Shared → Prop} {N : Nat → Option GenState} {s t : Shared} (x : Sl N s t) (h : wpAny M A tr Q E t) :
    wpAny M A tr (fun a s' => ∃ t', Sl N s' t' ∧ Q a t') (fun e s' => ∃ t', Sl N s' t' ∧ E e t') s := fun Γ p hΓ => wp_real tr _ _ p s t x (h Γ p hΓ)
def Gless (X : Cx) : Prop := ∀ (s0 : Shared) (e : Value) (s t : Shared), AllBare s0.gens → Sl (slept s0) s t → X.xe e t → X.xe e s
theorem gless_cx {P : Program} {w : World} {K : PySem.W.Frag} {mg : Str → Option Value} {base : Heap} {N : List Str} {qual : Str} {sc : Scope} {f : Addr} {cd : Value} {A : Around} {outer : List Env} {s : Shared} {H : Hp} {E : XK} :
    Gless (cxOf (L2.CX P w) P w K mg base N qual sc f cd A outer s H E) := fun s0 e s1 t1 hb x h => by
  have h : wpAny (model P w) (A.deeper (envOfC qual sc s.heap.objs.size f cd)) (leaving (envOfC qual sc s.heap.objs.size f cd) e) (fun _ s'' => L2.CX P w outer H s E e s'') (fun e' s'' => L2.CX P w outer H s E e' s'') t1 := h
  show wpAny (model P w) (A.deeper (envOfC qual sc s.heap.objs.size f cd)) (leaving (envOfC qual sc s.heap.objs.size f cd) e) (fun _ s'' => L2.CX P w outer H s E e s'') (fun e' s'' => L2.CX P w outer H s E e' s'') s1
  have cx : ∀ {u : Value} {s2 : Shared}, (∃ t', Sl (slept s0) s2 t' ∧ L2.CX P w outer H s E u t') → L2.CX P w outer H s E u s2 := fun {u s2} ⟨t2, y, q⟩ => by
    obtain ⟨a, B, H', cls, d, r1, r2, r3, r4, r5, r6, r7, r8⟩ := q
    exact ⟨a, B, H', cls, d, r1, by rw [y.heap]; exact r2, r3, by rw [y.heap]; exact r4, r5, y.os.trans r6, y.bare r7 hb, r8⟩
  exact wpAny_mono (wpAny_sl x h) (fun _ s2 q => cx q) fun _ s2 q => cx q
end Z
set_option linter.all false
set_option Elab.async false
set_option maxRecDepth 100000
namespace Z
open PySem PySem.Spec PyProof.Rows L2 GenW
theorem bnd_in {α β γ : Type} {a : Mo α} {b : α → Mo β} {F : β → Mo γ} {s s5 : S} {x : α} (h : a s = some (.ok x, s5)) : bnd (bnd a b) F s = bnd (b x) F s5 := by
  unfold bnd
  simp only [h]
theorem bnd_no {α β γ : Type} {a : Mo α} {b : α → Mo β} {F : β → Mo γ} {s : S} (h : a s = none) : bnd (bnd a b) F s = none := by
  unfold bnd
  simp only [h]
theorem cells_list {cells : List (Str × Addr)} {h : Heap} (hc : ∀ x c, cells.lookup x = some c → ∃ v, h.IsCell c v) : ∃ L : List (Addr × Obj), (∀ b o, L.lookup b = some o → h.get? b = some o ∧ ∃ y, cells.lookup y = some b) ∧ ∀ y c, cells.lookup y = some c → ∃ o, L.lookup c = some o := by
  have key : ∀ ks : List Str, ∃ L : List (Addr × Obj), (∀ b o, L.lookup b = some o → h.get? b = some o ∧ ∃ y, cells.lookup y = some b) ∧ ∀ y ∈ ks, ∀ c, cells.lookup y = some c → ∃ o, L.lookup c = some o := fun ks => by
    induction ks with
    | nil => exact ⟨[], fun b o e => by simp at e, fun y hy => by simp at hy⟩
    | cons k ks ih =>
      obtain ⟨L, h1, h2⟩ := ih
      cases q : cells.lookup k with
      | none =>
        refine ⟨L, h1, fun y hy c e => ?_⟩
        rcases List.mem_cons.mp hy with rfl | hy
        · rw [q] at e; cases e
        · exact h2 y hy c e
      | some c0 =>
        obtain ⟨v, o, ho, hd⟩ := hc k c0 q
        refine ⟨(c0, o) :: L, fun b o' e => ?_, fun y hy c e => ?_⟩
        · rw [List.lookup_cons] at e
          by_cases z : (b == c0) = true
          · rw [z] at e
            cases e
            have z := eq_of_beq z
            subst z
            exact ⟨ho, k, q⟩
          · rw [Bool.not_eq_true] at z
            rw [z] at e
            exact h1 b o' e
        · by_cases z : (c == c0) = true
          · exact ⟨o, by rw [List.lookup_cons, z]⟩
          · rw [Bool.not_eq_true] at z
            rcases List.mem_cons.mp hy with rfl | hy
            · rw [q] at e
              cases e
              simp at z
            · obtain ⟨o', e'⟩ := h2 y hy c e
              exact ⟨o', by rw [List.lookup_cons, z]; exact e'⟩
  obtain ⟨L, h1, h2⟩ := key (cells.map (·.1))
  exact ⟨L, h1, fun y c e => h2 y (List.mem_map.mpr ⟨(y, c), PySem.mem_of_lookup e, rfl⟩) c e⟩
noncomputable def mForZ (n : Nat) (m : List W → Option (List W)) (ma : Mo (List RV)) (t : W → Mo Unit) (mb : Mo Fl) : Mo Fl := bnd ma fun xs => bnd (freezeAll xs) fun ws s => if ws.length = n ∧ noRefs ws = true then (match m ws with
  | some out => forL ⟨out, none⟩ out (fun w => bnd (t w) fun _ => mb) s
  | none => none) else none
def tZ (K : PySem.W.Frag) (mg : Str → Option Value) (ea : EA) (Wx : WX) (m : Mo Fl) : TS := fun D σ H => ∃ (io : List Addr) (Fr : Addr → Prop) (s : S) (r : Except Ex Fl) (s' : S), Sim K mg ea io Fr s σ H ∧ m s = some (r, s') ∧
  (r = .ok .nx → ∀ σ' H' io', PostS K mg ea io Fr s σ H s' σ' io' H' → D.nx σ' H') ∧ (r = .ok .bk → ∀ σ' H' io', PostS K mg ea io Fr s σ H s' σ' io' H' → D.bk σ' H') ∧
  (r = .ok .ct → ∀ σ' H' io', PostS K mg ea io Fr s σ H s' σ' io' H' → D.ct σ' H') ∧ (∀ f, r = .ok (.rt f) → ∀ v H' io', PostF K mg io (Ms io Fr s σ) Fr H s'.G io' H' f v → D.rt v H') ∧
  (∀ x, r = .error x → ∀ cls d σ' H' io', PostX K mg ea io Fr s σ H s' σ' io' H' x cls d → Wx cls d σ' H')
theorem ref_tZ {K : PySem.W.Frag} {mg : Str → Option Value} {ea : EA} {Wx : WX} {m : Mo Fl} : RefS K mg ea Wx (tZ K mg ea Wx m) m := fun σ H io Fr s S0 r s' e D h1 h2 h3 h4 h5 => ⟨io, Fr, s, r, s', S0, e, h1, h2, h3, h4, h5⟩
section
variable {X : Cx} {pins : List (Addr × Obj)} {σ : L2.St} {H : Hp} {s s2 : Shared}
theorem Inv.onto (I : Inv X pins σ H s) (hk : ∀ b o, s.heap.get? b = some o → s2.heap.get? b = some o) (ho : s2.os = s.os) (hb : AllBare s2.gens) : Inv X pins σ H s2 := I.call' (ch := []) ho (Un.kept hk) (I.hok.kept hk) hb fun b z => by simp at z
end
section
variable {X : Cx} {ea : EA} {Wx : WX} {k : Nat} {f : Addr} {fd : FuncData} {ps : List Str} {x : Str} {p pos pos' : Pos} {e : Expr} {es : List Expr} {ta : TA} {ma : Mo (List RV)} {m : List W → Option (List W)} {tg : Expr} {g : TG} {t : W → Mo Unit} {l : List Nat} {body : List Stmt} {tb : TS} {mb : Mo Fl}
def AwZ (X : Cx) (ea : EA) (pins : List (Addr × Obj)) (io : List Addr) (Fr : Addr → Prop) (sA : S) (σ : L2.St) (H : Hp) (out : List W) (bM : W → Mo Fl) (r : Except Ex Fl) (sE : S) : Nat → Hp → Shared → (Addr → Prop) → (Addr → Prop) → Prop := fun j Hw sw FrG Bs => ∃ (ioA : List Addr) (σA : L2.St) (sm : S),
  Inv X pins σA Hw sw ∧ Sim X.K X.mg ea ioA (Plus Fr Bs) sm σA Hw ∧ FrG = Ms ioA Fr sm σA ∧ Stp io (Ms io Fr sA σ) Fr H ioA (Ms ioA (Plus Fr Bs) sm σA) Hw ∧ forL ⟨out, none⟩ (out.drop j) bM sm = some (r, sE)
theorem ps_forZ (hgl : Gless X) (hp : PassesOwn (model X.prog X.w) X.A X.env X.xe) (hst : X.stack = X.env :: X.outer) (hfr : X.env.frame = some X.env.locals) (F : GZFn X.prog X.w X.K X.mg X.base k f fd ps m) (hr : Room (k + 1) X.A) (hm : X.mg x = some (.ref f)) (hk : PySem.W.keepIn X.K (.ref f) = true) (hb : Binds X.K fd ps [])
    (ha : PA X (e :: es) ta) (har : RefA X.K X.mg ea Wx ta ma) (hgq : PG X tg g) (hgr : RefG X.K X.mg ea g t l) (hbq : PSs X body tb) (hbr : RefS X.K X.mg ea Wx tb mb) (hg : Gl X x)
    (hdb : (x == ("__debug__" : Str)) = false) (he : starEach (e :: es) X.env = (false, eval e X.env) :: starEach es X.env) (hpl : (backTo pos' (starEach es X.env)).any (·.1) = false) (hs : ∀ v, foldedSetIterable (.Call (.Name x p) (e :: es) [] pos') X.env v = pure v) :
    PS X (.For tg (.Call (.Name x p) (e :: es) [] pos') body [] pos) (tZ X.K X.mg ea Wx (mForZ ps.length m ma t mb)) := by
  refine ⟨fun pins s σ H D I h => ?_⟩
  obtain ⟨io, Fr, sA, r, sE, S0, em, h1, h2, h3, h4, h5⟩ := h
  generalize hbM : (fun w => bnd (t w) fun _ => mb) = bM
  have hta : ta σ H (fun vs H1 => ∃ io1 s2 ws out, Sim X.K X.mg ea io1 Fr s2 σ H1 ∧ Stp io (Ms io Fr sA σ) Fr H io1 (Ms io1 Fr s2 σ) H1 ∧ Rws X.K X.mg io1 (Ms io1 Fr s2 σ) H1 ws vs ∧ ws.length = ps.length ∧ noRefs ws = true ∧ m ws = some out ∧ forL ⟨out, none⟩ out bM s2 = some (r, sE)) := by
    unfold mForZ at em
    rcases bnd_some em with ⟨z, e1, rfl⟩ | ⟨xs, s1, e1, e2⟩
    · exact har σ H io Fr sA S0 _ _ e1 _ (fun _ q => by cases q) fun z' q cls d H' io' px => by cases q; exact h5 _ rfl cls d σ H' io' px
    · refine har σ H io Fr sA S0 _ _ e1 _ (fun xs' q vs H1 io1 px R1 => ?_) fun _ q => by cases q
      cases q
      rcases bnd_some e2 with ⟨z, e3, rfl⟩ | ⟨ws, s2, e3, e4⟩
      · obtain ⟨_, _, _, _, q, _⟩ := freezeAll_ok px.1 R1 e3
        cases q
      · obtain ⟨_, l2, S2, ws', q, R2⟩ := freezeAll_ok px.1 R1 e3
        cases q
        have e4 : (if ws.length = ps.length ∧ noRefs ws = true then (match m ws with
          | some out => forL ⟨out, none⟩ out (fun w => bnd (t w) fun _ => mb) s2
          | none => none) else none) = some (r, sE) := e4
        split at e4
        · rename_i hc
          split at e4
          · rename_i out ho
            exact ⟨io1, s2, ws, out, S2, px.2.less l2, R2, hc.1, hc.2, ho, by rw [← hbM]; exact e4⟩
          · cases e4
        · cases e4
  refine wpAny_For (wpAny_Call_Name_kw (ld_glob I hg hm ?_ hdb)) hs
  refine PySem.W.callWith_K (h₀ := X.base) I.ok.mod.kin hk (thn (ha.run pos' pins s σ H _ I hta) fun us s1 ⟨vs, H1, I1, rv, q⟩ => ⟨I1.kIn, ?_⟩) he hpl
  obtain ⟨io1, sB, ws, out, S1, T1, R1, hwl, hnr, hmo, eL⟩ := q
  have hvl : vs.length = ps.length := by rw [← R1.1]; exact hwl
  refine wpAny_call (codeAny_mono (F.run X.A X.stack s1 H1 ⟨us, []⟩ us vs (hr.mono (Nat.le_succ k)) I1.env0 (by simpa using hb s1 us I1.kIn (by rw [List.append_nil, ← rv.length]; exact hvl)) rv hvl) fun rr s3 hq => ?_)
  cases rr with
  | error e => exact hq.elim
  | ok fl =>
  cases fl with
  | next => exact hq.elim
  | brk => exact hq.elim
  | cont => exact hq.elim
  | ret u =>
  obtain ⟨a, gn, c, N, qual, sc, fa, cd, go, rfl, ha1, ha2, hgs, hos, hba, hlim, hkp, hgo, hgen, hgd, wake⟩ := hq
  refine wpAny_pyIter_gen (hgen _ hgo) ?_
  let F0 : Fm := famOf X.prog X.w X.K X.mg X.base N qual sc fa cd X.A.in1 X.stack [(a, go)] s1 H1
  let par : GPar := ⟨F0, X.A.in1, out, AwZ X ea pins io Fr sA σ H out bM r sE⟩
  have hn1 : X.s_0.heap.objs.size ≤ s1.heap.objs.size := I1.sz
  have hL1' : X.env.locals < s1.heap.objs.size := I1.lt
  have hC1 : ∀ y c, X.env.cells.lookup y = some c → c < s1.heap.objs.size := fun y c e => let ⟨_, q⟩ := I1.cell y c e; q.lt
  have hP1 : ∀ q ∈ X.pn ++ pins, q.1 < s1.heap.objs.size := fun q hq => Heap.lt_size (I1.pin q hq).1
  have hF1 : ∀ b ∈ frs X.stack, b < s1.heap.objs.size := fun b hb => by
    rcases List.mem_cons.mp (I1.stkSub b hb) with z | z
    · rw [z]; exact hL1'
    · obtain ⟨_, o, ho, _⟩ := I1.ok.funs.mem z
      exact Nat.lt_of_lt_of_le (Heap.lt_size ho) hn1
  have hLs : X.env.locals ∈ frs X.stack := by
    rw [hst]
    unfold frs
    rw [List.filterMap_cons, hfr]
    exact List.mem_cons_self
  have hFs : ∀ b ∈ X.fs, b ∈ frs X.stack := fun b hb => by
    rw [hst]
    unfold frs
    rw [List.filterMap_cons, hfr]
    exact List.mem_cons_of_mem _ hb
  have back : ∀ {j : Nat} {ip : List (Addr × Obj)} {sg : S} {σg : L2.St} {t0 t1 : Shared} {H0 Hn : Hp} {FrG Bs : Addr → Prop}, GIz par j ip sg σg t0 H0 FrG Bs Hn t1 → ∃ (ioA : List Addr) (σA : L2.St) (sm : S), Inv X pins σA Hn t1 ∧ Sim X.K X.mg ea ioA (Plus Fr (Own sg σg)) sm σA Hn ∧ FrG = Ms ioA Fr sm σA ∧
      Stp io (Ms io Fr sA σ) Fr H ioA (Ms ioA (Plus Fr (Own sg σg)) sm σA) Hn ∧ forL ⟨out, none⟩ (out.drop j) bM sm = some (r, sE) := fun {j ip sg σg t0 t1 H0 Hn FrG Bs} gz => by
    obtain ⟨ioA, σA, sm, IA, SA, eF, TA, eA⟩ := gz.aw
    subst eF
    obtain ⟨SA1, p1⟩ := two_b SA gz.sim gz.stp (fun a z => z) (fun a z => Ms.mine' (.inr z))
    have I2 : Inv X pins σA Hn t1 := Inv.stretch IA (n := s1.heap.objs.size) gz.inv.base gz.inv.os gz.inv.bare gz.inv.hok hn1 hL1' hC1 hP1
    exact ⟨ioA, σA, sm, I2, SA1, rfl, TA.trans ⟨p1, fun b z => gz.stp.fr b (.inr (.inl z)), gz.stp.trk⟩, eA⟩
  refine codeAny_forLoop_any (fun n s4 => ∃ gs, s4.gens[gn]? = some gs ∧ s4.heap.get? a = some go ∧ (∃ σ' H', Inv X pins σ' H' s4) ∧ gs.Goes (model X.prog X.w) X.A.in1 (RZ par) (YZ par) n (.send .none) (s4.setGen gn .running)) ?_ sizeLine ⟨.fresh c, hgs, hgo, ⟨σ, H1, Inv.onto I1 hkp hos hba⟩, rfl, ?_⟩
  rotate_left
  ·
    have IW : Inv X pins σ H1 (s3.setGen gn .running) := Inv.onto I1 hkp hos (allBare_setGen hba rfl)
    have S1' : Sim X.K X.mg ea io1 (Plus Fr fun _ => False) sB σ H1 := S1.less fun b z => z.elim id False.elim
    have nr : ∀ a, Ms io1 Fr sB σ a → ∃ o, H1 a = some o ∧ Nt o := fun a z => S1.trkN z
    have R1' : Rws X.K X.mg [] (Mu [] (Ms io1 Fr sB σ)) H1 ws vs := ⟨R1.1, fun i w v e1 e2 => ((R1.2 i w v e1 e2).noRef (io' := []) (noRefs_get hnr e1)).pers ⟨fun _ _ e _ => e, fun a z => z.elim (fun q => by simp at q) .inl, fun _ _ e => e⟩⟩
    have e0 : Env0 X.prog X.w X.K X.mg X.base X.A.in1 X.stack (s3.setGen gn .running) H1 := ⟨I1.env0.frames, IW.env0.mod, IW.env0.bs, IW.env0.bsz, IW.env0.funs, IW.env0.frf, IW.env0.hok, IW.env0.bare⟩
    exact wake X.A.in1 hr.in1 I1.env0.frames ws out (AwZ X ea pins io Fr sA σ H out bM r sE) (Ms io1 Fr sB σ) hmo R1' nr (s3.setGen gn .running) (fun b o e => e) hos (allBare_setGen hba rfl) e0
      ⟨io1, σ, sB, IW, S1', rfl, T1.less (Ms.mono fun b z => z.elim id False.elim), eL⟩
  rintro n s4 ⟨gs, hg4, ha4, ⟨σ4, H4, I4⟩, goes⟩
  have hgl4 : gn + 1 ≤ s4.gens.size := (Array.getElem?_eq_some_iff.mp hg4).1
  refine wpAny_passesOwn hp (wpAny_gsz (n := gn + 1) hgl4 (next_sus (F := FZ par) hr.hd I4.nolimit (by have := hr.dp; omega) (hgen _ ha4) hg4 goes (fun v t1 gs' hbare hsus hv => ?_) (fun t1 hz h' hk' => ?_)))
  ·
    obtain ⟨j, w, ip, sg, σg, H0, FrG, Bs, Hn, xv, hnj, hw, gz, rv, rw_, wakeup⟩ := hv
    obtain ⟨ioA, σA, sm, IA, SA, rfl, TA, eA⟩ := back gz
    intro hsz
    have hgx : gn < t1.gens.size := by
      rw [setGen_size] at hsz
      exact hsz
    have hYg : (t1.setGen gn gs').gens[gn]? = some gs' := setGen_at hgx
    have hbY : AllBare (t1.setGen gn gs').gens := allBare_setGen gz.inv.bare hbare
    obtain ⟨mL, ⟨oL, es, ep, hoL, hdL, _⟩, _⟩ := gz.inv.loc
    have gpin : ∀ q ∈ F0.X.pn ++ ip, t1.heap.get? q.1 = some q.2 ∧ Hn q.1 = none ∧ q.1 ∉ frs X.stack ∧ ∀ v, q.2.data ≠ .cell v := fun q hq => by
      obtain ⟨q1, q2, q3, q4, q5⟩ := gz.inv.pin q hq
      exact ⟨q1, q2, q4, q5⟩
    have hLg : s1.heap.objs.size ∉ frs X.stack := fun z => Nat.lt_irrefl _ (hF1 _ z)
    have IY0 : Inv X pins σA Hn (t1.setGen gn gs') := Inv.onto IA (fun b o e => e) rfl hbY
    have IY : Inv X (pins ++ ((s1.heap.objs.size, oL) :: (F0.X.pn ++ ip))) σA Hn (t1.setGen gn gs') := IY0.pins_of fun q hq => by
      rcases List.mem_append.mp hq with hq | hq
      · exact IY0.pin q (List.mem_append_right _ hq)
      · rcases List.mem_cons.mp hq with hq | hq
        · subst hq
          refine ⟨hoL, gz.inv.free, fun z => hLg ((show s1.heap.objs.size = X.env.locals from z) ▸ hLs), fun z => hLg (hFs _ z), fun v z => ?_⟩
          rw [hdL] at z
          cases z
        · obtain ⟨q1, q2, q3, q4⟩ := gpin q hq
          exact ⟨q1, q2, fun z => q3 (by rw [z]; exact hLs), fun z => q3 (hFs _ z), q4⟩
    obtain ⟨L, hL1, hL2⟩ : ∃ L : List (Addr × Obj), (∀ b o, L.lookup b = some o → t1.heap.get? b = some o ∧ ∃ y, F0.X.env.cells.lookup y = some b) ∧ ∀ y c, F0.X.env.cells.lookup y = some c → ∃ o, L.lookup c = some o := cells_list gz.inv.cell
    have op : Opn L Hn := fun b o e => let ⟨_, y, q⟩ := hL1 b o e; gz.inv.freeC y b q
    have isC : ∀ b o, L.lookup b = some o → ∃ v, o.data = .cell v := fun b o e => by
      obtain ⟨q1, y, q2⟩ := hL1 b o e
      obtain ⟨v, o', ho', hd'⟩ := gz.inv.cell y b q2
      rw [q1] at ho'
      cases ho'
      exact ⟨v, hd'⟩
    have yg : ∀ b o, L.lookup b = some o → s1.heap.objs.size ≤ b := fun b o e => by
      obtain ⟨_, y, q⟩ := hL1 b o e
      have := gz.inv.ok.cab y b rfl q
      have e2 : (cutS (s4.setGen gn .running) s1.heap.objs.size).heap.objs.size = s1.heap.objs.size := cutH_size gz.sz
      exact e2 ▸ this
    have nL : ∀ {b : Addr}, b < s1.heap.objs.size → ∀ o, L.lookup b ≠ some o := fun {b} hb o e => absurd (Nat.lt_of_lt_of_le hb (yg b o e)) (Nat.lt_irrefl _)
    have af : Afar X L (pins ++ ((s1.heap.objs.size, oL) :: (F0.X.pn ++ ip))) := by
      refine ⟨fun b o e => Nat.le_trans hn1 (yg b o e), nL hL1', fun y c o e => nL (hC1 y c e) o, fun q hq o e => ?_, Inv.noh0 IA op⟩
      rcases List.mem_append.mp hq with hq | hq
      · exact nL (hP1 q (List.mem_append_left _ hq)) o e
      · rcases List.mem_append.mp hq with hq | hq
        · exact nL (hP1 q (List.mem_append_right _ hq)) o e
        · obtain ⟨v, hv⟩ := isC q.1 o e
          have q1 := (hL1 q.1 o e).1
          rcases List.mem_cons.mp hq with hq | hq
          · subst hq
            have hoL : t1.heap.get? s1.heap.objs.size = some oL := hoL
            rw [hoL] at q1
            cases q1
            rw [hdL] at hv
            cases hv
          · obtain ⟨p1, _, _, p4⟩ := gpin q hq
            rw [p1] at q1
            cases q1
            exact p4 v hv
    have trA : ∀ b, (Plus Fr (Own sg σg)) b → ∃ o, Hn b = some o := fun b z => let ⟨o, e, _⟩ := SA.g.fr b (.inl z); ⟨o, e⟩
    have nlA : ∀ b, (Plus Fr (Own sg σg)) b → ∀ o, L.lookup b ≠ some o := fun b z o e => by
      obtain ⟨u, q⟩ := trA b z
      rw [op b o e] at q
      cases q
    have Rw1 : Rw X.K X.mg ioA (Ms ioA (Plus Fr (Own sg σg)) sm σA) Hn w xv := rw_.pers ⟨fun _ _ e _ => e, fun a z => .inl (Ms.mine' (Ms.cases z)), fun n a e => by simp at e⟩
    rw [drop_get (List.getElem?_eq_some_iff.mp hw).1, (List.getElem?_eq_some_iff.mp hw).2] at eA
    unfold forL at eA
    rw [if_pos (show (⟨out, none⟩ : Wk).ok sm from trivial)] at eA
    obtain ⟨s5, ct, eB⟩ : ∃ s5, t w sm = some (.ok (), s5) ∧ (bnd mb fun f => match f with
      | .nx => forL ⟨out, none⟩ (out.drop (j + 1)) bM
      | .ct => forL ⟨out, none⟩ (out.drop (j + 1)) bM
      | .bk => ret .nx
      | .rt f => ret (.rt f)) s5 = some (r, sE) := by
      have ebm : bM w = bnd (t w) fun _ => mb := by rw [← hbM]
      rw [ebm] at eA
      cases ct : t w sm with
      | none =>
        rw [bnd_no ct] at eA
        cases eA
      | some pr =>
        obtain ⟨r1, s5⟩ := pr
        have := hgr.ne _ _ _ _ ct
        subst this
        rw [bnd_in ct] at eA
        exact ⟨s5, rfl, eA⟩
    obtain ⟨rb, s7m, em, eC⟩ : ∃ rb s7m, mb s5 = some (rb, s7m) ∧ (rb = .ok .nx ∨ rb = .ok .ct → forL ⟨out, none⟩ (out.drop (j + 1)) bM s7m = some (r, sE)) ∧ (rb = .ok .bk → r = .ok .nx ∧ sE = s7m) ∧ (∀ f, rb = .ok (.rt f) → r = .ok (.rt f) ∧ sE = s7m) ∧ (∀ y, rb = .error y → r = .error y ∧ sE = s7m) := by
      rcases bnd_some eB with ⟨y, e1, rfl⟩ | ⟨fl, s7m, e1, e2⟩
      · exact ⟨_, _, e1, (fun z => by rcases z with z | z <;> cases z), (fun z => by cases z), (fun f z => by cases z), (fun y z => by cases z; exact ⟨rfl, rfl⟩)⟩
      · refine ⟨_, _, e1, fun z => ?_, fun z => ?_, fun f z => ?_, (fun y z => by cases z)⟩
        · rcases z with z | z <;> cases z <;> exact e2
        · cases z; cases e2; exact ⟨rfl, rfl⟩
        · cases z; cases e2; exact ⟨rfl, rfl⟩
    obtain ⟨c1, c2, c3, c4⟩ := eC
    have hpa : ((a, go) : Addr × Obj) ∈ F0.X.pn := List.mem_singleton.mpr rfl
    have hat : (t1.setGen gn gs').heap.get? a = some go := (gpin (a, go) (List.mem_append_left _ hpa)).1
    obtain ⟨og, nm, qn, hog, hcg, hdg, _⟩ := hgen _ hat
    refine L2.go_of hog hcg hdg (by decide) ?_
    have IYs : Inv X (pins ++ ((s1.heap.objs.size, oL) :: (F0.X.pn ++ ip))) σA (lk L Hn) (stuckS (t1.setGen gn gs')) := Inv.onto (Inv.locked IY op (fun b o e => (hL1 b o e).1) af) (fun b o e => e) rfl (stuckS_bare hbY)
    have hasg := hgq.run _ _ σA (lk L Hn) xv v (fun σ6 H6 => H6 = lk L Hn ∧ Sim X.K X.mg ea ioA (Plus Fr (Own sg σg)) s5 σ6 (lk L Hn) ∧ ∀ b, Ms ioA (Plus Fr (Own sg σg)) s5 σ6 b → Ms ioA (Plus Fr (Own sg σg)) sm σA b) IYs rv
      (hgr.go σA (lk L Hn) ioA (Plus Fr (Own sg σg)) sm w xv (SA.locked op) (Rw1.pers (pers_lk op)) _ _ ct _ fun σ6 S6 l6 _ _ => ⟨rfl, S6, l6⟩)
    refine wpAny_mono (wpAny_sl (sl_of (t1.setGen gn gs')) hasg) (fun _ s6 hs6 => ?_) (fun y s6 ⟨t6, x6, q⟩ => hp y s6 (hgl _ y s6 t6 hbY x6 q))
    obtain ⟨t6, x6, σ6, H6, I6, eH6, S6, l6⟩ := hs6
    subst eH6
    have T6 := (TA.trans (stp_lk op fun b z => trA b (.inl z))).less l6
    have T6u := TA.less l6
    have shr : ∀ b, Ms ioA Fr s5 σ6 b → Ms ioA Fr sm σA b := fun b z => by
      rcases Ms.cases (l6 b (Ms.plus (.inl z))) with q | q
      · exact q
      · exfalso
        rcases z with z | z | z
        · exact S6.g.dj b z (.inl (.inr q))
        · exact gz.sim.notFr q (.inr (.inl z))
        · exact S6.notFr (.inr z) (.inr q)
    have SB6 : Sim X.K X.mg ea0 [] (Ms ioA Fr s5 σ6) sg σg Hn := gz.sim.less shr
    have hbody := hbq.run _ t6 σ6 (lk L Hn) { nx := fun σ7 H7 => rb = .ok .nx ∧ ∃ io7, PostS X.K X.mg ea ioA (Plus Fr (Own sg σg)) s5 σ6 (lk L Hn) s7m σ7 io7 H7, rt := fun v H7 => ∃ f io7, rb = .ok (.rt f) ∧ PostF X.K X.mg ioA (Ms ioA (Plus Fr (Own sg σg)) s5 σ6) (Plus Fr (Own sg σg)) (lk L Hn) s7m.G io7 H7 f v, bk := fun σ7 H7 => rb = .ok .bk ∧ ∃ io7, PostS X.K X.mg ea ioA (Plus Fr (Own sg σg)) s5 σ6 (lk L Hn) s7m σ7 io7 H7, ct := fun σ7 H7 => rb = .ok .ct ∧ ∃ io7, PostS X.K X.mg ea ioA (Plus Fr (Own sg σg)) s5 σ6 (lk L Hn) s7m σ7 io7 H7 } I6
      (hbr σ6 (lk L Hn) ioA (Plus Fr (Own sg σg)) s5 S6 _ _ em _ (fun z σ7 H7 io7 px => ⟨z, io7, px⟩) (fun z σ7 H7 io7 px => ⟨z, io7, px⟩) (fun z σ7 H7 io7 px => ⟨z, io7, px⟩) (fun f z v H7 io7 px => ⟨f, io7, z, px⟩) (fun y z cls d σ7 H7 io7 px => ?_))
    rotate_left
    · obtain ⟨rfl, rfl⟩ := c4 y z
      refine h5 y rfl cls d σ7 H7 io7 ⟨px.1.less fun b z => .inl z, (T6.trans (px.2.1.frless fun b z => .inl z)).less (Ms.mono fun b z => .inl z), px.2.2.pers (.less (Ms.mono fun b z => .inl z))⟩
    refine wpAny_mono (wpAny_sl x6 hbody) (fun fl s7 hs7 => ?_) (fun y s7 ⟨t7, x7, q⟩ => hp y s7 (hgl _ y s7 t7 hbY x7 q))
    obtain ⟨t7, x7, q7⟩ := hs7
    have hb7 : AllBare t7.gens → AllBare s7.gens := fun hb => x7.bare hb hbY
    have sub : ∀ {σ7 : L2.St} {H7 : Hp}, Inv X (pins ++ ((s1.heap.objs.size, oL) :: (F0.X.pn ++ ip))) σ7 H7 t7 → Inv X (pins ++ ((s1.heap.objs.size, oL) :: (F0.X.pn ++ ip))) σ7 H7 s7 := fun {σ7 H7} I7 => Inv.onto I7 (fun b o e => by rw [x7.heap]; exact e) x7.os (hb7 I7.bare)
    have unp : ∀ {σ7 : L2.St} {H7 : Hp} {u : Shared}, Inv X (pins ++ ((s1.heap.objs.size, oL) :: (F0.X.pn ++ ip))) σ7 H7 u → Inv X pins σ7 H7 u := fun {σ7 H7 u} I7 => I7.pins_of fun q hq => I7.pin q (List.mem_append_right _ (List.mem_append_left _ hq))
    have again : ∀ (σ7 : L2.St) (H7 : Hp) (io7 : List Addr), Inv X (pins ++ ((s1.heap.objs.size, oL) :: (F0.X.pn ++ ip))) σ7 H7 t7 → PostS X.K X.mg ea ioA (Plus Fr (Own sg σg)) s5 σ6 (lk L Hn) s7m σ7 io7 H7 → forL ⟨out, none⟩ (out.drop (j + 1)) bM s7m = some (r, sE) →
        ∃ mm, mm < n ∧ ∃ gs, s7.gens[gn]? = some gs ∧ s7.heap.get? a = some go ∧ (∃ σ' H', Inv X pins σ' H' s7) ∧ gs.Goes (model X.prog X.w) X.A.in1 (RZ par) (YZ par) mm (.send .none) (s7.setGen gn .running) := fun σ7 H7 io7 I7 px eN => by
      have lo : Lkd L H7 := fun b o e => px.2.p.keep b _ (lkd_lk b o e) fun z => by
        obtain ⟨u, q, _⟩ := SA.trkN (l6 b z)
        rw [op b o e] at q
        cases q
      have Sx : Sim X.K X.mg ea io7 (Plus Fr (Own sg σg)) s7m σ7 (unl L H7) := sim_unl lo px.1 nlA
      have Tx : Stp ioA (Ms ioA (Plus Fr (Own sg σg)) s5 σ6) (Plus Fr (Own sg σg)) Hn io7 (Ms io7 (Plus Fr (Own sg σg)) s7m σ7) (unl L H7) := stp_unl op trA px.2 lo
      have I7l := sub I7
      have I7s := Inv.unlocked I7l lo af
      have I7r : Inv X (pins ++ ((s1.heap.objs.size, oL) :: (F0.X.pn ++ ip))) σ7 (unl L H7) (s7.setGen gn .running) := Inv.onto I7s (fun b o e => e) rfl (allBare_setGen I7s.bare rfl)
      have pL := I7r.pin (s1.heap.objs.size, oL) (List.mem_append_right _ (List.mem_append_right _ List.mem_cons_self))
      have pG : ∀ q ∈ F0.X.pn ++ ip, (s7.setGen gn .running).heap.get? q.1 = some q.2 ∧ unl L H7 q.1 = none := fun q hq => by
        obtain ⟨q1, q2, _⟩ := I7r.pin q (List.mem_append_right _ (List.mem_append_right _ (List.mem_cons_of_mem _ hq)))
        exact ⟨q1, q2⟩
      obtain ⟨SB7, p7⟩ := two_a SB6 Sx Tx
      have wk : Wak F0 ip t1 (s7.setGen gn .running) (unl L H7) := ⟨I7r.hok, I7r.bare, I7r.env0.bs, I7r.env0.funs, I7r.env0.frf, Nat.le_of_lt (Heap.lt_size pL.1), fun o e => by
        have e : t1.heap.get? s1.heap.objs.size = some o := e
        have hoL : t1.heap.get? s1.heap.objs.size = some oL := hoL
        rw [hoL] at e
        cases e
        exact pL.1, pL.2.1, fun y c e => by
        obtain ⟨o, q⟩ := hL2 y c e
        refine ⟨opn_unl c o q, fun o' e' => ?_⟩
        rw [(hL1 c o q).1] at e'
        cases e'
        exact lk_there I7l.hok lo q, pG⟩
      have lv : Lv X.K X.mg (Ms ioA Fr sm σA) sg σg Hn (Ms io7 Fr s7m σ7) sg σg (unl L H7) := ⟨(Pers.less fun b z => Ms.mine' ((Ms.mine z).imp (shr b) id)).trans p7 fun _ o e => ⟨o, e⟩, Tx.trk⟩
      have K := wakeup (s7.setGen gn .running) (unl L H7) (Ms io7 Fr s7m σ7) wk SB7 lv ⟨io7, σ7, s7m, unp I7r, Sx, rfl, T6u.trans (Tx.frless fun b z => .inl z), eN⟩
      cases n with
      | zero => exact K.elim
      | succ mm => exact ⟨mm, Nat.lt_succ_self _, gs', x7.stay hYg hsus, (pG (a, go) (List.mem_append_left _ hpa)).1, ⟨σ7, unl L H7, unp I7s⟩, K⟩
    cases fl with
    | next =>
      obtain ⟨σ7, H7, I7, z, io7, px⟩ := q7
      exact again σ7 H7 io7 I7 px (c1 (.inl z))
    | cont =>
      obtain ⟨σ7, H7, I7, z, io7, px⟩ := q7
      exact again σ7 H7 io7 I7 px (c1 (.inr z))
    | brk =>
      obtain ⟨σ7, H7, I7, z, io7, px⟩ := q7
      obtain ⟨rfl, rfl⟩ := c2 z
      exact ⟨σ7, H7, unp (sub I7), h1 rfl σ7 H7 io7 ⟨px.1.less fun b z => .inl z, (T6.trans (px.2.frless fun b z => .inl z)).less (Ms.mono fun b z => .inl z)⟩⟩
    | ret u =>
      obtain ⟨v7, σ7, H7, I7, r7, f, io7, z, px⟩ := q7
      obtain ⟨rfl, rfl⟩ := c3 f z
      refine ⟨v7, σ7, H7, unp (sub I7), r7, h4 f rfl v7 H7 io7 ?_⟩
      have mo : ∀ b, Mu io7 Fr b → Mu io7 (Plus Fr (Own sg σg)) b := fun b z => z.imp id .inl
      cases f with
      | val w7 =>
        obtain ⟨y1, y2, y3⟩ := px
        exact ⟨y1.less (s := sE) fun b z => .inl z, (T6.trans (y2.frless fun b z => .inl z)).less mo, y3.pers (.less mo)⟩
      | own c7 =>
        obtain ⟨a7, o7, y1, y2, y3, y4, y5, y6⟩ := px
        have pm : ∀ b, pls Fr a7 b → pls (Plus Fr (Own sg σg)) a7 b := fun b z => z.imp .inl id
        have mo : ∀ b, Mu io7 (pls Fr a7) b → Mu io7 (pls (Plus Fr (Own sg σg)) a7) b := fun b z => z.imp id (pm b)
        exact ⟨a7, o7, y1, y2, fun z => y3 (.inl z), y4.less (s := sE) pm, (T6.trans (y5.frless fun b z => .inl z)).less mo, y6.pers (.less mo)⟩
  ·
    intro _
    obtain ⟨sg, σg, H0, FrG, Bs, Hn, hnj, gz⟩ := hz
    obtain ⟨ioA, σA, sm, IA, SA, rfl, TA, eA⟩ := back gz
    have eA : forL ⟨out, none⟩ (out.drop out.length) bM sm = some (r, sE) := eA
    rw [List.drop_length] at eA
    unfold forL at eA
    rw [if_pos (show (⟨out, none⟩ : Wk).ok sm from trivial)] at eA
    cases eA
    exact wpAny_execs_nil ⟨σA, Hn, Inv.onto IA hk' rfl (allBare_setGen gz.inv.bare rfl), h1 rfl σA Hn ioA ⟨SA.less fun b z => .inl z, TA.less (Ms.mono fun b z => .inl z)⟩⟩
end
end Z
set_option linter.all false
set_option Elab.async false
set_option maxRecDepth 100000
namespace Z
open PySem PySem.Spec PyProof.Rows L2 GenW
section
variable {X : Cx} {ea : EA} {Wx : WX} {k n : Nat} {f : Addr} {fd : FuncData} {ps : List Str} {x : Str} {p pos pos' : Pos} {e : Expr} {es : List Expr} {ma : Mo (List RV)} {m : List W → Option (List W)} {tg : Expr} {t : W → Mo Unit} {l : List Nat} {body : List Stmt} {mb : Mo Fl}
theorem pes_forZ (hn : ps.length = n) (hgl : Gless X) (hp : PassesOwn (model X.prog X.w) X.A X.env X.xe) (F : GZFn X.prog X.w X.K X.mg X.base k f fd ps m) (hr : Room (k + 1) X.A) (hm : X.mg x = some (.ref f)) (hk : PySem.W.keepIn X.K (.ref f) = true) (hb : Binds X.K fd ps [])
    (ha : Pea X ea Wx (e :: es) ma) (hg : Peg X ea tg t l) (hbd : Pess X ea Wx body mb) (hst : X.stack = X.env :: X.outer := by rfl) (hfr : X.env.frame = some X.env.locals := by rfl) (hgl2 : Gl X x := by rfl)
    (hdb : (x == ("__debug__" : Str)) = false := by decide) (he : starEach (e :: es) X.env = (false, eval e X.env) :: starEach es X.env := by rfl) (hpl : (backTo pos' (starEach es X.env)).any (·.1) = false := by rfl) (hs : ∀ v, foldedSetIterable (.Call (.Name x p) (e :: es) [] pos') X.env v = pure v := by intro _; rfl) :
    Pes X ea Wx (.For tg (.Call (.Name x p) (e :: es) [] pos') body [] pos) (mForZ n m ma t mb) := by
  subst hn
  obtain ⟨ta, q1, r1⟩ := ha.ex
  obtain ⟨tq, q2, r2⟩ := hg.ex
  obtain ⟨tb, q3, r3⟩ := hbd.ex
  exact ⟨_, ps_forZ hgl hp hst hfr F hr hm hk hb q1 r1 q2 r2 q3 r3 hgl2 hdb he hpl hs, ref_tZ⟩
end
section
variable {X : Cx} {ea : EA} {Wx : WX}
theorem pes_chk {st : Stmt} {m : Mo Fl} (h : Pes X ea Wx st m) : Pes X ea Wx st (chkG m) := let ⟨t, p, r⟩ := h.ex; ⟨t, p, fun σ H io Fr s S0 r0 s' e D => r σ H io Fr s S0 r0 s' (chkG_some e).1 D⟩
theorem pee_chk {e : Expr} {m : Mo RV} (h : Pee X ea Wx e m) : Pee X ea Wx e (chkG m) := let ⟨t, p, r⟩ := h.ex; ⟨t, p, fun σ H io Fr s S0 r0 s' e D => r σ H io Fr s S0 r0 s' (chkG_some e).1 D⟩
theorem pet_chk {e : Expr} {m : Mo Bool} (h : Pet X ea Wx e m) : Pet X ea Wx e (chkG m) := let ⟨t, p, r⟩ := h.ex; ⟨t, p, fun σ H io Fr s S0 r0 s' e D => r σ H io Fr s S0 r0 s' (chkG_some e).1 D⟩
theorem pei_chk {tg e : Expr} {m : Mo Wk} (h : Pei X ea Wx tg e m) : Pei X ea Wx tg e (chkG m) := let ⟨t, p, r⟩ := h.ex; ⟨t, p, fun σ H io Fr s S0 r0 s' e D => r σ H io Fr s S0 r0 s' (chkG_some e).1 D⟩
theorem peg_chk {tg : Expr} {t : W → Mo Unit} {l : List Nat} (h : Peg X ea tg t l) : Peg X ea tg (fun w => chkG (t w)) l := let ⟨g, p, r⟩ := h.ex; ⟨g, p, ⟨fun w s r0 s' e => r.ne w s r0 s' (chkG_some e).1, fun σ H io Fr s w v S0 R r0 s' e Q h => r.go σ H io Fr s w v S0 R r0 s' (chkG_some e).1 Q h⟩⟩
end
def mListF (n : Nat) (m : Gn) (ma : Mo (List RV)) : Mo RV := bnd ma fun xs => bnd (freezeAll xs) fun ws s => if ws.length = n then (match m ws s.G with
  | some (.ok out, G') => some (.ok (.own (.lst out)), { s with G := G' })
  | _ => none) else none
section
variable {K : PySem.W.Frag} {mg : Str → Option Value} {ea : EA} {Wx : WX}
theorem ref_listF {n : Nat} {m : Gn} {ta : TA} {ma : Mo (List RV)} (ho : RefA K mg ea Wx ta ma) : RefE K mg ea Wx (tListG (tCallG (spGM K mg n m) [] (fun _ _ _ => False) ta)) (mListF n m ma) := by
  intro σ H io Fr s S0 r0 s' e Q hok hex
  unfold mListF at e
  rcases bnd_some e with ⟨z, e1, rfl⟩ | ⟨xs, s1, e1, e2⟩
  · exact ho σ H io Fr s S0 _ _ e1 _ (fun _ q => by cases q) fun z' q cls d H' io' px => by cases q; exact hex _ rfl cls d H' io' px
  refine ho σ H io Fr s S0 _ _ e1 _ (fun xs' q vs H1 io1 px R1 => ?_) fun _ q => by cases q
  cases q
  rcases bnd_some e2 with ⟨z, e3, rfl⟩ | ⟨ws, s3, e3, e4⟩
  · obtain ⟨_, _, _, _, q, _⟩ := freezeAll_ok px.1 R1 e3
    cases q
  obtain ⟨_, l2, S2, ws', q, R2⟩ := freezeAll_ok px.1 R1 e3
  cases q
  have T2 := px.2.less l2
  have e6 : (if ws.length = n then (match m ws s3.G with
    | some (.ok out, G') => some ((.ok (.own (.lst out)) : Except Ex RV), { s3 with G := G' })
    | _ => none) else none) = some (r0, s') := e4
  split at e6
  rotate_left
  · cases e6
  rename_i hl
  show spGM K mg n m (vs ++ []) H1 _ _
  rw [List.append_nil]
  split at e6
  · rename_i out G' k
    cases e6
    refine ⟨by rw [← R2.1]; exact hl, io1, FrO Fr s3.r σ, s3.G, ws, _, G', S2.g, R2, k, fun out' q ys H' io' g T r p hp => ?_, fun x q => by cases q⟩
    cases q
    have nown : ∀ a (i : Nat) c, s3.r[i]? = some (.own c) → σ[i]? = some (some (V.ref a)) → ¬ Fr a := fun a i c h1 h2 => by
      obtain ⟨b, o, q1, _, _, q4⟩ := S2.own i c h1
      rw [h2] at q1; cases q1
      exact q4
    have S3 := S2.call g T nown
    have T3 : Stp io (Ms io Fr s σ) Fr H io' (Ms io' Fr { s3 with G := G' } σ) H' := T2.trans (T.frless fun b z => .inl z)
    have nf : ¬ FrO Fr s3.r σ p := fun z => by
      obtain ⟨u, e⟩ := S3.trk (.inr z)
      rw [hp] at e; cases e
    obtain ⟨S4, T4, nf⟩ := S3.alloc (o := .lst ys) hp
    exact hok _ rfl _ _ io' ⟨p, .lst ys, rfl, upd_same, nf, S4, T3.trans T4, ys, rfl, Rws.pers T4.p r⟩
  · cases e6
end
section
variable {X : Cx} {ea : EA} {Wx : WX} {e : Expr} {es : List Expr} {ma : Mo (List RV)} {m : Gn} {k n : Nat} {f : Addr} {fd : FuncData} {ps : List Str} {x : Str} {p pl pos pos' : Pos}
theorem pee_listF (hn : ps.length = n) (F : GnM X.prog X.w X.K X.mg X.base k f fd ps m) (hr : Room (k + 3) X.A) (hm : X.mg x = some (.ref f)) (hk : PySem.W.keepIn X.K (.ref f) = true) (hb : Binds X.K fd ps []) (hl : X.mg "list" = none) (ha : Pea X ea Wx (e :: es) ma)
    (hg : Gl X "list" := by rfl) (hgx : Gl X x := by rfl) (hdb : (x == ("__debug__" : Str)) = false := by decide) (he : starEach (e :: es) X.env = (false, eval e X.env) :: starEach es X.env := by rfl) (hpl : (backTo pos' (starEach es X.env)).any (·.1) = false := by rfl)
    (hst : starEach [.Call (.Name x pl) (e :: es) [] pos'] X.env = (false, eval (.Call (.Name x pl) (e :: es) [] pos') X.env) :: starEach [] X.env := by rfl) :
    Pee X ea Wx (.Call (.Name "list" p) [.Call (.Name x pl) (e :: es) [] pos'] [] pos) (mListF n m ma) := by
  subst hn
  obtain ⟨t, q, r⟩ := ha.ex
  refine ⟨_, pe_listG (pgen_call (E := fun _ _ _ => False) F.ok (hr.mono (Nat.le_add_right _ _)) hgx hm hk hb .nil q hdb he hpl) (fun _ _ _ _ _ _ _ z => ?_) (fun _ _ _ z => z.elim) hr hg hl rfl (he := hst), ref_listF r⟩
  obtain ⟨_, _, _, _, _, _, _, _, _, _, _, _, z⟩ := z
  exact z.elim
end
section
variable {r : List SV} {G : List Cell}
@[simp] theorem mForZ_e {n : Nat} {m : List W → Option (List W)} {ma : Mo (List RV)} {t : W → Mo Unit} {mb : Mo Fl} : mForZ n m ma t mb ⟨r, G⟩ = bnd ma (fun xs => bnd (freezeAll xs) fun ws s => if ws.length = n ∧ noRefs ws = true then (match m ws with
  | some out => forL ⟨out, none⟩ out (fun w => bnd (t w) fun _ => mb) s
  | none => none) else none) ⟨r, G⟩ := rfl
@[simp] theorem mListF_e {n : Nat} {m : Gn} {ma : Mo (List RV)} : mListF n m ma ⟨r, G⟩ = bnd ma (fun xs => bnd (freezeAll xs) fun ws s => if ws.length = n then (match m ws s.G with
  | some (.ok out, G') => some (.ok (.own (.lst out)), { s with G := G' })
  | _ => none) else none) ⟨r, G⟩ := rfl
theorem chkG_at {α : Type} {m : Mo α} {s s' : S} {x : Except Ex α} (h : m s = some (x, s')) (hG : s'.G = []) : chkG m s = some (x, s') := by
  unfold chkG
  rw [h]
  show (if s'.G.isEmpty = true then _ else _) = _
  rw [hG]
  rfl
end
end Z
set_option Elab.async false
set_option linter.all false
set_option maxRecDepth 100000
set_option maxHeartbeats 4000000
namespace Z
open PySem PySem.Spec PyProof.Rows L2
def top (i : Nat) : Stmt := PySem.Challenge.pw_partkeepers_k22_chains_in_order.main.body.getD i (.Pass ⟨0, 0, 0, 0⟩)
abbrev s__law_numbers : Stmt := top 18
abbrev s__law_row : Stmt := top 19
abbrev s__law_rows : Stmt := top 20
abbrev s__law_cell : Stmt := top 17
abbrev s_Layout___init__ : Stmt := inClass (top 14) 0
abbrev s__law_lines : Stmt := top 21
abbrev s__law_longer : Stmt := top 25
abbrev s__law_keys_of : Stmt := top 23
abbrev s__law_is_chain : Stmt := top 24
abbrev s__law_chains : Stmt := top 26
abbrev s__law_due : Stmt := top 27
abbrev s__law_is_int : Stmt := top 16
abbrev s__law_same_rows : Stmt := top 22
abbrev s_Layout___len__ : Stmt := inClass (top 14) 1
abbrev s_is_path : Stmt := top 8
abbrev s_lowest : Stmt := top 7
abbrev s_chain_keys : Stmt := top 9
abbrev s_chains : Stmt := top 10
abbrev s_Layout___iter__ : Stmt := inClass (top 14) 2
abbrev s_law : Stmt := top 28
abbrev s_BadKey___init__ : Stmt := inClass (top 4) 0
def ck0 (K : PySem.W.Frag) : List Bool := [fnB K (He.ga K "_law_numbers") "_law_numbers", fnB K (He.ga K "_law_row") "_law_row", fnB K (He.ga K "_law_rows") "_law_rows", fnB K (He.ga K "_law_cell") "_law_cell", fnB K (He.ma K (He.ga K "Layout") "__init__") "Layout.__init__", fnB K (He.ga K "_law_lines") "_law_lines", fnB K (He.ga K "_law_longer") "_law_longer", fnB K (He.ga K "_law_keys_of") "_law_keys_of", fnB K (He.ga K "_law_is_chain") "_law_is_chain", fnB K (He.ga K "_law_chains") "_law_chains", fnB K (He.ga K "_law_due") "_law_due", fnB K (He.ga K "_law_is_int") "_law_is_int", fnB K (He.ga K "_law_same_rows") "_law_same_rows", fnB K (He.ma K (He.ga K "Layout") "__len__") "Layout.__len__", fnB K (He.ga K "is_path") "is_path", fnB K (He.ga K "lowest") "lowest", fnB K (He.ga K "chain_keys") "chain_keys", fnB K (He.ga K "chains") "chains", fnB K (He.ma K (He.ga K "Layout") "__iter__") "Layout.__iter__", fnB K (He.ga K "law") "law", fnB K (He.ma K (He.ga K "BadKey") "__init__") "BadKey.__init__", intB K "MOST_COPIES" 6, intB K "MOST_KEYS" 8, decide (PySem.W.nsIn K mainGlobals "all" = some none), decide (PySem.W.nsIn K mainGlobals "any" = some none), decide (PySem.W.nsIn K mainGlobals "bool" = some none), decide (PySem.W.nsIn K mainGlobals "int" = some none), decide (PySem.W.nsIn K mainGlobals "isinstance" = some none), decide (PySem.W.nsIn K mainGlobals "iter" = some none), decide (PySem.W.nsIn K mainGlobals "len" = some none), decide (PySem.W.nsIn K mainGlobals "list" = some none), decide (PySem.W.nsIn K mainGlobals "range" = some none), decide (PySem.W.nsIn K mainGlobals "set" = some none), decide (PySem.W.nsIn K mainGlobals "sum" = some none), decide (PySem.W.nsIn K mainGlobals "tuple" = some none), decide (PySem.W.nsIn K mainGlobals "KeeperError" = some (some (.ref (He.ga K "KeeperError")))), decide (PySem.W.keepIn K (.ref (He.ga K "KeeperError")) = true), decide (PySem.W.nsIn K mainGlobals "BadLayout" = some (some (.ref (He.ga K "BadLayout")))), decide (PySem.W.keepIn K (.ref (He.ga K "BadLayout")) = true), decide (PySem.W.nsIn K mainGlobals "BadKey" = some (some (.ref (He.ga K "BadKey"))))]
def ck1 (K : PySem.W.Frag) : List Bool := [decide (PySem.W.keepIn K (.ref (He.ga K "BadKey")) = true), decide (PySem.W.nsIn K mainGlobals "NoCopy" = some (some (.ref (He.ga K "NoCopy")))), decide (PySem.W.keepIn K (.ref (He.ga K "NoCopy")) = true), decide (PySem.W.nsIn K mainGlobals "Layout" = some (some (.ref (He.ga K "Layout")))), decide (PySem.W.keepIn K (.ref (He.ga K "Layout")) = true), decide (PySem.W.plainGet K (He.ga K "Layout") Str.empty = true), decide (PySem.W.hasDictIn K (He.ga K "Layout") = true), decide (PySem.W.plainOver K (He.ga K "Layout") = true), decide (PySem.W.findIn K (.ref (He.ga K "Layout")) "__setattr__" = some (some (.builtin "object.__setattr__"))), decide (PySem.W.makesIn K (He.ga K "Layout") = true), decide (PySem.W.findIn K (.ref (He.ga K "Layout")) "__class__" = some (some (.builtin "object.__class__"))), decide (PySem.W.mroIn K (He.ga K "Layout") (.type "object") = some true), decide (PySem.W.kitOne K (.ref (He.ga K "Layout")) (.ref (He.ga K "Layout")) = some true), decide (PySem.W.specialIn K (.builtin "object.__class__") "__get__" = some (some (.builtin "getset_descriptor.__get__"))), decide (PySem.W.takesIn K (.builtin "object.__class__") = some true), decide (PySem.W.findIn K (.ref (He.ga K "Layout")) "masks" = some none), decide (PySem.W.findIn K (.ref (He.ga K "Layout")) "rows" = some none), decide (PySem.W.kitOne K (.ref (He.ga K "Layout")) (.type "bool") = some false), decide (PySem.W.kitOne K (.ref (He.ga K "Layout")) (.type "int") = some false), decide (PySem.W.kitOne K (.ref (He.ga K "Layout")) (.type "list") = some false), decide (PySem.W.kitOne K (.ref (He.ga K "Layout")) (.type "tuple") = some false), excB K (He.ga K "BadKey") [.ref (He.ga K "KeeperError"), .type "ValueError", .type "Exception", .type "BaseException", .type "object"] "ValueError.__new__", decide (PySem.W.findIn K (.ref (He.ga K "BadKey")) "__setattr__" = some (some (.builtin "object.__setattr__"))), decide (PySem.W.subIn K (.ref (He.ga K "BadKey")) (.type "BaseException") = some true), decide (PySem.W.typeIn K (.ref (He.ga K "BadKey")) = some (.type "type")), decide (PySem.W.findIn K (.ref (He.ga K "BadKey")) "key" = some none), decide (PySem.W.findIn K (.ref (He.ga K "BadKey")) "__init__" = some (some (.ref (He.ma K (He.ga K "BadKey") "__init__")))), decide (PySem.W.typeIn K (.ref (He.ma K (He.ga K "BadKey") "__init__")) = some (.type "function")), decide (PySem.W.excIn K (He.ga K "BadLayout") [.type "ValueError", .type "Exception", .type "BaseException", .type "object"] "ValueError.__new__" = true), decide (PySem.W.subIn K (.ref (He.ga K "BadLayout")) (.type "BaseException") = some true), decide (PySem.W.typeIn K (.ref (He.ga K "BadLayout")) = some (.type "type")), decide (PySem.W.keepIn K (.ref (He.ga K "_law_numbers")) = true), decide (PySem.W.nsIn K mainGlobals "_law_numbers" = some (some (.ref (He.ga K "_law_numbers")))), decide (PySem.W.keepIn K (.ref (He.ga K "_law_row")) = true), decide (PySem.W.nsIn K mainGlobals "_law_row" = some (some (.ref (He.ga K "_law_row")))), decide (PySem.W.keepIn K (.ref (He.ga K "_law_rows")) = true), decide (PySem.W.nsIn K mainGlobals "_law_rows" = some (some (.ref (He.ga K "_law_rows")))), decide (PySem.W.keepIn K (.ref (He.ga K "_law_cell")) = true), decide (PySem.W.nsIn K mainGlobals "_law_cell" = some (some (.ref (He.ga K "_law_cell")))), decide (PySem.W.keepIn K (.ref (He.ma K (He.ga K "Layout") "__init__")) = true)]
def ck2 (K : PySem.W.Frag) : List Bool := [decide (PySem.W.findIn K (.ref (He.ga K "Layout")) "__init__" = some (some (.ref (He.ma K (He.ga K "Layout") "__init__")))), decide (PySem.W.isFn K (.ref (He.ma K (He.ga K "Layout") "__init__")) = true), decide (PySem.W.keepIn K (.ref (He.ga K "_law_lines")) = true), decide (PySem.W.nsIn K mainGlobals "_law_lines" = some (some (.ref (He.ga K "_law_lines")))), decide (PySem.W.keepIn K (.ref (He.ga K "_law_longer")) = true), decide (PySem.W.nsIn K mainGlobals "_law_longer" = some (some (.ref (He.ga K "_law_longer")))), decide (PySem.W.keepIn K (.ref (He.ga K "_law_keys_of")) = true), decide (PySem.W.nsIn K mainGlobals "_law_keys_of" = some (some (.ref (He.ga K "_law_keys_of")))), decide (PySem.W.keepIn K (.ref (He.ga K "_law_is_chain")) = true), decide (PySem.W.nsIn K mainGlobals "_law_is_chain" = some (some (.ref (He.ga K "_law_is_chain")))), decide (PySem.W.keepIn K (.ref (He.ga K "_law_chains")) = true), decide (PySem.W.nsIn K mainGlobals "_law_chains" = some (some (.ref (He.ga K "_law_chains")))), decide (PySem.W.keepIn K (.ref (He.ga K "_law_due")) = true), decide (PySem.W.nsIn K mainGlobals "_law_due" = some (some (.ref (He.ga K "_law_due")))), decide (PySem.W.keepIn K (.ref (He.ga K "_law_is_int")) = true), decide (PySem.W.nsIn K mainGlobals "_law_is_int" = some (some (.ref (He.ga K "_law_is_int")))), decide (PySem.W.keepIn K (.ref (He.ga K "_law_same_rows")) = true), decide (PySem.W.nsIn K mainGlobals "_law_same_rows" = some (some (.ref (He.ga K "_law_same_rows")))), decide (PySem.W.keepIn K (.ref (He.ma K (He.ga K "Layout") "__len__")) = true), decide (PySem.W.findIn K (.ref (He.ga K "Layout")) "__len__" = some (some (.ref (He.ma K (He.ga K "Layout") "__len__")))), decide (PySem.W.isFn K (.ref (He.ma K (He.ga K "Layout") "__len__")) = true), decide (PySem.W.keepIn K (.ref (He.ga K "is_path")) = true), decide (PySem.W.nsIn K mainGlobals "is_path" = some (some (.ref (He.ga K "is_path")))), decide (PySem.W.keepIn K (.ref (He.ga K "lowest")) = true), decide (PySem.W.nsIn K mainGlobals "lowest" = some (some (.ref (He.ga K "lowest")))), decide (PySem.W.keepIn K (.ref (He.ga K "chain_keys")) = true), decide (PySem.W.nsIn K mainGlobals "chain_keys" = some (some (.ref (He.ga K "chain_keys")))), decide (PySem.W.keepIn K (.ref (He.ga K "chains")) = true), decide (PySem.W.nsIn K mainGlobals "chains" = some (some (.ref (He.ga K "chains")))), decide (PySem.W.keepIn K (.ref (He.ma K (He.ga K "Layout") "__iter__")) = true), decide (PySem.W.findIn K (.ref (He.ga K "Layout")) "__iter__" = some (some (.ref (He.ma K (He.ga K "Layout") "__iter__")))), decide (PySem.W.isFn K (.ref (He.ma K (He.ga K "Layout") "__iter__")) = true), decide (PySem.W.keepIn K (.ref (He.ga K "law")) = true), decide (PySem.W.nsIn K mainGlobals "law" = some (some (.ref (He.ga K "law")))), decide (PySem.W.keepIn K (.ref (He.ma K (He.ga K "BadKey") "__init__")) = true)]
def chkZ (K : PySem.W.Frag) : Bool := ((ck0 K).all fun b => b) && (((ck1 K).all fun b => b) && (((ck2 K).all fun b => b)))
def fnZl0 : List (PySem.W.Frag → Addr) := [fun K => He.ga K "_law_numbers", fun K => He.ga K "_law_row", fun K => He.ga K "_law_rows", fun K => He.ga K "_law_cell", fun K => He.ma K (He.ga K "Layout") "__init__", fun K => He.ga K "_law_lines", fun K => He.ga K "_law_longer", fun K => He.ga K "_law_keys_of", fun K => He.ga K "_law_is_chain", fun K => He.ga K "_law_chains", fun K => He.ga K "_law_due", fun K => He.ga K "_law_is_int", fun K => He.ga K "_law_same_rows", fun K => He.ma K (He.ga K "Layout") "__len__", fun K => He.ga K "is_path", fun K => He.ga K "lowest", fun K => He.ga K "chain_keys", fun K => He.ga K "chains", fun K => He.ma K (He.ga K "Layout") "__iter__", fun K => He.ga K "law", fun K => He.ma K (He.ga K "BadKey") "__init__"]
def fnZl : List (PySem.W.Frag → Addr) := fnZl0
def vsZl0 : List FnZ := [some ("_law_numbers", "_law_numbers", defArgs s__law_numbers, .stmts (defBody s__law_numbers), defScope s__law_numbers), some ("_law_row", "_law_row", defArgs s__law_row, .stmts (defBody s__law_row), defScope s__law_row), some ("_law_rows", "_law_rows", defArgs s__law_rows, .stmts (defBody s__law_rows), defScope s__law_rows), some ("_law_cell", "_law_cell", defArgs s__law_cell, .stmts (defBody s__law_cell), defScope s__law_cell), some ("__init__", "Layout.__init__", defArgs s_Layout___init__, .stmts (defBody s_Layout___init__), defScope s_Layout___init__), some ("_law_lines", "_law_lines", defArgs s__law_lines, .stmts (defBody s__law_lines), defScope s__law_lines), some ("_law_longer", "_law_longer", defArgs s__law_longer, .stmts (defBody s__law_longer), defScope s__law_longer), some ("_law_keys_of", "_law_keys_of", defArgs s__law_keys_of, .stmts (defBody s__law_keys_of), defScope s__law_keys_of), some ("_law_is_chain", "_law_is_chain", defArgs s__law_is_chain, .stmts (defBody s__law_is_chain), defScope s__law_is_chain), some ("_law_chains", "_law_chains", defArgs s__law_chains, .stmts (defBody s__law_chains), defScope s__law_chains), some ("_law_due", "_law_due", defArgs s__law_due, .stmts (defBody s__law_due), defScope s__law_due), some ("_law_is_int", "_law_is_int", defArgs s__law_is_int, .stmts (defBody s__law_is_int), defScope s__law_is_int), some ("_law_same_rows", "_law_same_rows", defArgs s__law_same_rows, .stmts (defBody s__law_same_rows), defScope s__law_same_rows), some ("__len__", "Layout.__len__", defArgs s_Layout___len__, .stmts (defBody s_Layout___len__), defScope s_Layout___len__), some ("is_path", "is_path", defArgs s_is_path, .stmts (defBody s_is_path), defScope s_is_path), some ("lowest", "lowest", defArgs s_lowest, .stmts (defBody s_lowest), defScope s_lowest), some ("chain_keys", "chain_keys", defArgs s_chain_keys, .stmts (defBody s_chain_keys), defScope s_chain_keys), some ("chains", "chains", defArgs s_chains, .stmts (defBody s_chains), defScope s_chains), some ("__iter__", "Layout.__iter__", defArgs s_Layout___iter__, .stmts (defBody s_Layout___iter__), defScope s_Layout___iter__), some ("law", "law", defArgs s_law, .stmts (defBody s_law), defScope s_law), some ("__init__", "BadKey.__init__", defArgs s_BadKey___init__, .stmts (defBody s_BadKey___init__), defScope s_BadKey___init__)]
def vsZl : List FnZ := vsZl0
def loose0 : List Str := ["_wall", "__name__", "KeeperError", "BadLayout", "BadKey", "NoCopy", "lowest", "is_path", "chain_keys", "chains", "MOST_COPIES", "MOST_KEYS", "Layout", "_law_is_int", "_law_cell", "_law_numbers", "_law_row", "_law_rows", "_law_lines", "_law_same_rows", "_law_keys_of", "_law_is_chain", "_law_longer", "_law_chains", "_law_due"]
def loose : List Str := loose0
abbrev hk : PySem.W.Hook := hookZ 6 chkZ fnZl vsZl
def obZ (x : PySem.W.SharedT) : Bool × List FnZ := obsZ 6 chkZ fnZl (HandSHeadRun.getT x)
theorem runZ (w : World) : HandSHeadRun.RunEq (PySem.W.OpenLaw.row PySem.Challenge.rw_partkeepers_k22_chains_in_order) (PySem.W.view (PySem.W.OpenLaw.row PySem.Challenge.rw_partkeepers_k22_chains_in_order).prog [28]) hk obZ 60000 loose w := by
  intro os
  kernel_rfl
end Z
set_option Elab.async false
set_option linter.all false
set_option maxRecDepth 100000
set_option maxHeartbeats 4000000
namespace Z
open PySem PySem.Spec PyProof.Rows L2
def fn_masks : List Str := ["Layout"]
def fn_rows : List Str := ["Layout"]
def ti_bool : List (CT × Bool) := [(.ty "NoneType", false), (.ty "bool", true), (.ty "int", false), (.ty "str", false), (.ty "bytes", false), (.ty "tuple", false), (.ty "list", false), (.ty "dict", false), (.own "Layout", false)]
def ti_int : List (CT × Bool) := [(.ty "NoneType", false), (.ty "bool", true), (.ty "int", true), (.ty "str", false), (.ty "bytes", false), (.ty "tuple", false), (.ty "list", false), (.ty "dict", false), (.own "Layout", false)]
def ti_list : List (CT × Bool) := [(.ty "NoneType", false), (.ty "bool", false), (.ty "int", false), (.ty "str", false), (.ty "bytes", false), (.ty "tuple", false), (.ty "list", true), (.ty "dict", false), (.own "Layout", false)]
def ti_tuple : List (CT × Bool) := [(.ty "NoneType", false), (.ty "bool", false), (.ty "int", false), (.ty "str", false), (.ty "bytes", false), (.ty "tuple", true), (.ty "list", false), (.ty "dict", false), (.own "Layout", false)]
structure Tx (P : Program) (K : PySem.W.Frag) (mg : Str → Option Value) where
  C_KeeperError : Addr
  C_BadLayout : Addr
  C_BadKey : Addr
  C_NoCopy : Addr
  C_Layout : Addr
  f__law_numbers : Addr
  f__law_row : Addr
  f__law_rows : Addr
  f__law_cell : Addr
  f_Layout___init__ : Addr
  f__law_lines : Addr
  f__law_longer : Addr
  f__law_keys_of : Addr
  f__law_is_chain : Addr
  f__law_chains : Addr
  f__law_due : Addr
  f__law_is_int : Addr
  f__law_same_rows : Addr
  f_Layout___len__ : Addr
  f_is_path : Addr
  f_lowest : Addr
  f_chain_keys : Addr
  f_chains : Addr
  f_Layout___iter__ : Addr
  f_law : Addr
  f_BadKey___init__ : Addr
  fd__law_numbers : FuncData
  fd__law_row : FuncData
  fd__law_rows : FuncData
  fd__law_cell : FuncData
  fd_Layout___init__ : FuncData
  fd__law_lines : FuncData
  fd__law_longer : FuncData
  fd__law_keys_of : FuncData
  fd__law_is_chain : FuncData
  fd__law_chains : FuncData
  fd__law_due : FuncData
  fd__law_is_int : FuncData
  fd__law_same_rows : FuncData
  fd_Layout___len__ : FuncData
  fd_is_path : FuncData
  fd_lowest : FuncData
  fd_chain_keys : FuncData
  fd_chains : FuncData
  fd_Layout___iter__ : FuncData
  fd_law : FuncData
  fd_BadKey___init__ : FuncData
  v_MOST_COPIES : ∃ t, mg "MOST_COPIES" = some (.int 6 t)
  v_MOST_KEYS : ∃ t, mg "MOST_KEYS" = some (.int 8 t)
  n_all : mg "all" = none
  n_any : mg "any" = none
  n_bool : mg "bool" = none
  n_int : mg "int" = none
  n_isinstance : mg "isinstance" = none
  n_iter : mg "iter" = none
  n_len : mg "len" = none
  n_list : mg "list" = none
  n_range : mg "range" = none
  n_set : mg "set" = none
  n_sum : mg "sum" = none
  n_tuple : mg "tuple" = none
  c_KeeperError : mg "KeeperError" = some (.ref C_KeeperError)
  kp_KeeperError : PySem.W.keepIn K (.ref C_KeeperError) = true
  c_BadLayout : mg "BadLayout" = some (.ref C_BadLayout)
  kp_BadLayout : PySem.W.keepIn K (.ref C_BadLayout) = true
  c_BadKey : mg "BadKey" = some (.ref C_BadKey)
  kp_BadKey : PySem.W.keepIn K (.ref C_BadKey) = true
  c_NoCopy : mg "NoCopy" = some (.ref C_NoCopy)
  kp_NoCopy : PySem.W.keepIn K (.ref C_NoCopy) = true
  c_Layout : mg "Layout" = some (.ref C_Layout)
  kp_Layout : PySem.W.keepIn K (.ref C_Layout) = true
  cl_Layout : Cls K C_Layout
  mk_Layout : PySem.W.makesIn K C_Layout = true
  nI_Layout : NoAttr K C_Layout "rows"
  in_Layout : C8.InsC K C_Layout
  fd_masks : ClsN K mg fn_masks "masks"
  fd_rows : ClsN K mg fn_rows "rows"
  ist_bool : IsTab K mg (.type "bool") ti_bool
  ist_int : IsTab K mg (.type "int") ti_int
  ist_list : IsTab K mg (.type "list") ti_list
  ist_tuple : IsTab K mg (.type "tuple") ti_tuple
  ox_BadKey : OexC K C_BadKey
  xn_BadKey : ∀ f ∈ (["key"] : List Str), PySem.W.findIn K (.ref C_BadKey) f = some none
  xf1_BadKey : PySem.W.findIn K (.ref C_BadKey) "__init__" = some (some (.ref f_BadKey___init__))
  xf2_BadKey : PySem.W.typeIn K (.ref f_BadKey___init__) = some (.type "function")
  xi_BadLayout : PySem.W.excIn K C_BadLayout [.type "ValueError", .type "Exception", .type "BaseException", .type "object"] "ValueError.__new__" = true
  xb_BadLayout : PySem.W.subIn K (.ref C_BadLayout) (.type "BaseException") = some true
  xt_BadLayout : PySem.W.typeIn K (.ref C_BadLayout) = some (.type "type")
  F__law_numbers : Fun K "_law_numbers" "_law_numbers" s__law_numbers f__law_numbers fd__law_numbers
  b__law_numbers : Binds K fd__law_numbers ["_law_cell_here", "_law_salt", "_law_limits"] []
  g__law_numbers : mg "_law_numbers" = some (.ref f__law_numbers)
  F__law_row : Fun K "_law_row" "_law_row" s__law_row f__law_row fd__law_row
  b__law_row : Binds K fd__law_row ["_law_kind", "_law_copy", "_law_many", "_law_number"] []
  g__law_row : mg "_law_row" = some (.ref f__law_row)
  F__law_rows : Fun K "_law_rows" "_law_rows" s__law_rows f__law_rows fd__law_rows
  b__law_rows : Binds K fd__law_rows ["_law_cell_here", "_law_least", "_law_top"] []
  g__law_rows : mg "_law_rows" = some (.ref f__law_rows)
  F__law_cell : Fun K "_law_cell" "_law_cell" s__law_cell f__law_cell fd__law_cell
  b__law_cell : Binds K fd__law_cell ["_law_script", "_law_k"] []
  g__law_cell : mg "_law_cell" = some (.ref f__law_cell)
  F_Layout___init__ : Fun K "__init__" "Layout.__init__" s_Layout___init__ f_Layout___init__ fd_Layout___init__
  b_Layout___init__ : Binds K fd_Layout___init__ ["self", "rows"] []
  mt_Layout___init__ : Meth K C_Layout "__init__" f_Layout___init__
  F__law_lines : Fun K "_law_lines" "_law_lines" s__law_lines f__law_lines fd__law_lines
  b__law_lines : Binds K fd__law_lines ["_law_rows_here"] []
  g__law_lines : mg "_law_lines" = some (.ref f__law_lines)
  F__law_longer : Fun K "_law_longer" "_law_longer" s__law_longer f__law_longer fd__law_longer
  b__law_longer : Binds K fd__law_longer ["_law_paths", "_law_many", "_law_taker"] []
  g__law_longer : mg "_law_longer" = some (.ref f__law_longer)
  F__law_keys_of : Fun K "_law_keys_of" "_law_keys_of" s__law_keys_of f__law_keys_of fd__law_keys_of
  b__law_keys_of : Binds K fd__law_keys_of ["_law_rows_here", "_law_one", "_law_two", "_law_away"] []
  g__law_keys_of : mg "_law_keys_of" = some (.ref f__law_keys_of)
  F__law_is_chain : Fun K "_law_is_chain" "_law_is_chain" s__law_is_chain f__law_is_chain fd__law_is_chain
  b__law_is_chain : Binds K fd__law_is_chain ["_law_rows_here", "_law_chain"] []
  g__law_is_chain : mg "_law_is_chain" = some (.ref f__law_is_chain)
  F__law_chains : Fun K "_law_chains" "_law_chains" s__law_chains f__law_chains fd__law_chains
  b__law_chains : Binds K fd__law_chains ["_law_rows_here", "_law_sender", "_law_taker"] []
  g__law_chains : mg "_law_chains" = some (.ref f__law_chains)
  F__law_due : Fun K "_law_due" "_law_due" s__law_due f__law_due fd__law_due
  b__law_due : Binds K fd__law_due ["_law_rows_here", "_law_sender", "_law_taker"] []
  g__law_due : mg "_law_due" = some (.ref f__law_due)
  F__law_is_int : Fun K "_law_is_int" "_law_is_int" s__law_is_int f__law_is_int fd__law_is_int
  b__law_is_int : Binds K fd__law_is_int ["_law_given"] []
  g__law_is_int : mg "_law_is_int" = some (.ref f__law_is_int)
  F__law_same_rows : Fun K "_law_same_rows" "_law_same_rows" s__law_same_rows f__law_same_rows fd__law_same_rows
  b__law_same_rows : Binds K fd__law_same_rows ["_law_told", "_law_due_here"] []
  g__law_same_rows : mg "_law_same_rows" = some (.ref f__law_same_rows)
  F_Layout___len__ : Fun K "__len__" "Layout.__len__" s_Layout___len__ f_Layout___len__ fd_Layout___len__
  b_Layout___len__ : Binds K fd_Layout___len__ ["self"] []
  mt_Layout___len__ : Meth K C_Layout "__len__" f_Layout___len__
  F_is_path : Fun K "is_path" "is_path" s_is_path f_is_path fd_is_path
  b_is_path : Binds K fd_is_path ["layout", "chain"] []
  g_is_path : mg "is_path" = some (.ref f_is_path)
  F_lowest : Fun K "lowest" "lowest" s_lowest f_lowest fd_lowest
  b_lowest : Binds K fd_lowest ["mask"] []
  g_lowest : mg "lowest" = some (.ref f_lowest)
  F_chain_keys : Fun K "chain_keys" "chain_keys" s_chain_keys f_chain_keys fd_chain_keys
  b_chain_keys : Binds K fd_chain_keys ["layout", "chain"] []
  g_chain_keys : mg "chain_keys" = some (.ref f_chain_keys)
  F_chains : Fun K "chains" "chains" s_chains f_chains fd_chains
  b_chains : Binds K fd_chains ["layout", "sender", "taker"] []
  g_chains : mg "chains" = some (.ref f_chains)
  F_Layout___iter__ : Fun K "__iter__" "Layout.__iter__" s_Layout___iter__ f_Layout___iter__ fd_Layout___iter__
  b_Layout___iter__ : Binds K fd_Layout___iter__ ["self"] []
  mt_Layout___iter__ : Meth K C_Layout "__iter__" f_Layout___iter__
  F_law : Fun K "law" "law" s_law f_law fd_law
  b_law : Binds K fd_law ["_law_script"] []
  F_BadKey___init__ : Fun K "__init__" "BadKey.__init__" s_BadKey___init__ f_BadKey___init__ fd_BadKey___init__
  b_BadKey___init__ : Binds K fd_BadKey___init__ ["self", "key"] []
section
variable {P : Program} {w : World} {K : PySem.W.Frag} {mg : Str → Option Value} {base : Heap}
theorem sc_BadKey___init__ : FnScope ["self", "key"] ["self", "key"] (defScope s_BadKey___init__) := ⟨rfl, rfl, rfl, by decide +kernel, rfl, by decide +kernel, by decide +kernel⟩
theorem xok_BadKey (T : Tx P K mg) : FnOk P w K mg base (L2.CX P w) 1 T.f_BadKey___init__ T.fd_BadKey___init__ ["self", "key"] (spXI K ["key"]) := xi1 T.F_BadKey___init__ sc_BadKey___init__ fun cdv A outer s H E hr => pss_one (ps_ost (pv 0) (pv 1) rfl)
theorem sc__law_numbers : FnScope ["_law_cell_here", "_law_salt", "_law_limits", "_law_rest", "_law_found", "_law_limit"] ["_law_cell_here", "_law_salt", "_law_limits"] (defScope s__law_numbers) := ⟨rfl, rfl, rfl, by decide +kernel, rfl, by decide +kernel, by decide +kernel⟩
noncomputable def b__law_numbers : Mo Fl := mSeq (mAsg 3 (mName 0)) (mSeq (mAsg 4 (mLst mNil)) (mSeq (mFor (mIter (mName 2)) (tgN 5) (mIf (mB (mBin fLt (mName 0) (mBin fPow (mC (.int 10)) (mC (.int 18))))) (mSeq (mAsg 3 (mBin fMod (mCB fInt1 (mCons (mBin fAdd (mBin fAdd (mBin fMul (mName 3) (mC (.int 75))) (mC (.int 74))) (mName 1)) mNil)) (mC (.int 65537)))) (mDrop (mMut .lst fAppend (mName 4) (mCons (mBin fMod (mCB fInt1 (mCons (mBin fDiv (mName 3) (mC (.int 7))) mNil)) (mName 5)) mNil)))) (mSeq (mDrop (mMut .lst fAppend (mName 4) (mCons (mBin fMod (mCB fInt1 (mCons (mName 3) mNil)) (mName 5)) mNil))) (mAsg 3 (mBin fDiv (mName 3) (mName 5)))))) (mRet (mName 4))))
noncomputable def m__law_numbers : Fn := fnM 6 b__law_numbers
theorem ok__law_numbers (T : Tx P K mg) : FnM P w K mg base 1 T.f__law_numbers T.fd__law_numbers ["_law_cell_here", "_law_salt", "_law_limits"] m__law_numbers := have sc := sc__law_numbers; defM2 T.F__law_numbers sc rfl fun cdv A outer s H E hr hu tk pa => pess_cons (pes_set 3 sc.nd (pee_name 0)) (pess_cons (pes_set 4 sc.nd (pee_lst pea_nil)) (pess_cons (pes_for pa (pei_seq (pee_name 2)) (peg_name 5 sc.nd) (pess_one (pes_if (pet_cmp om_lt (pee_name 0) (pee_op om_pow pee_int pee_int)) (pess_cons (pes_set 3 sc.nd (pee_op om_mod (pee_ct cm_int T.n_int (pea_cons (pee_op om_add (pee_op om_add (pee_op om_mul (pee_name 3) pee_int) pee_int) (pee_name 1)) pea_nil)) pee_int)) (pess_one (pes_expr (pee_mut (k := .lst) PySem.F.plainAttrs_list PySem.F.slot_list_append PySem.F.type_list_append mt_append mu_append (pee_name 4) (pea_cons (pee_op om_mod (pee_ct cm_int T.n_int (pea_cons (pee_op om_div (pee_name 3) pee_int) pea_nil)) (pee_name 5)) pea_nil))))) (pess_cons (pes_expr (pee_mut (k := .lst) PySem.F.plainAttrs_list PySem.F.slot_list_append PySem.F.type_list_append mt_append mu_append (pee_name 4) (pea_cons (pee_op om_mod (pee_ct cm_int T.n_int (pea_cons (pee_name 3) pea_nil)) (pee_name 5)) pea_nil))) (pess_one (pes_set 3 sc.nd (pee_op om_div (pee_name 3) (pee_name 5)))))))) (pess_one (pes_ret (pee_name 4)))))
theorem sc__law_row : FnScope ["_law_kind", "_law_copy", "_law_many", "_law_number", "_law_mine", "_law_size", "_law_key"] ["_law_kind", "_law_copy", "_law_many", "_law_number"] (defScope s__law_row) := ⟨rfl, rfl, rfl, by decide +kernel, rfl, by decide +kernel, by decide +kernel⟩
noncomputable def b__law_row : Mo Fl := mSeq (mIf (mOr (mB (mBin fEqD (mName 0) (mC (.int 0)))) (mB (mBin fEqD (mName 0) (mC (.int 5))))) (mSeq (mAsg 5 (mIfE (mB (mBin fEqD (mName 0) (mC (.int 0)))) (mC (.int 8)) (mC (.int 3)))) (mRet (mLc [6] (mRng1 (mCons (mName 5) mNil)) (tgN 6) (mB (mBin fEqD (mBin fMod (mCB fInt1 (mCons (mBin fShr (mName 3) (mName 6)) mNil)) (mC (.int 2))) (mC (.int 1)))) (mName 6)))) mNext) (mSeq (mAsg 4 (mLst (mCons (mBin fMod (mCB fInt1 (mCons (mBin fDiv (mName 3) (mC (.int 8))) mNil)) (mC (.int 8))) mNil))) (mSeq (mIf (mB (mBin fEqD (mName 0) (mC (.int 1)))) (mAsg 4 (mLst (mCons (mName 1) (mCons (mBin fAdd (mName 1) (mC (.int 1))) mNil)))) mNext) (mSeq (mIf (mB (mBin fEqD (mName 0) (mC (.int 2)))) (mAsg 4 (mIfE (mB (mBin fEqD (mName 1) (mC (.int 0)))) (mUn fLr1 (mBin fSub (mName 2) (mC (.int 1)))) (mLst (mCons (mBin fSub (mName 1) (mC (.int 1))) mNil)))) mNext) (mSeq (mIf (mB (mBin fEqD (mName 0) (mC (.int 4)))) (mAsg 4 (mLst (mCons (mName 1) (mCons (mBin fMod (mCB fInt1 (mCons (mBin fAdd (mName 1) (mC (.int 1))) mNil)) (mName 2)) mNil)))) mNext) (mSeq (mIf (mOr (mB (mBin fEqD (mName 0) (mC (.int 3)))) (mB (mBin fEqD (mBin fMod (mCB fInt1 (mCons (mBin fDiv (mName 3) (mC (.int 8))) mNil)) (mC (.int 4))) (mC (.int 0))))) (mAsg 4 (mBin fAdd (mName 4) (mLst (mCons (mBin fMod (mCB fInt1 (mCons (mName 3) mNil)) (mC (.int 8))) mNil)))) mNext) (mRet (mLc [6] (mRng1 (mCons (mC (.int 8)) mNil)) (tgN 6) (mB (mBin (fIn false) (mName 6) (mName 4))) (mName 6))))))))
noncomputable def m__law_row : Fn := fnM 7 b__law_row
theorem ok__law_row (T : Tx P K mg) : FnM P w K mg base 1 T.f__law_row T.fd__law_row ["_law_kind", "_law_copy", "_law_many", "_law_number"] m__law_row := have sc := sc__law_row; defM2 T.F__law_row sc rfl fun cdv A outer s H E hr hu tk pa => pess_cons (pes_if ((pew_or (pet_cmp (om_eqD (hu64 hu)) (pee_name 0) pee_int) (pew_or1 (pet_cmp (om_eqD (hu64 hu)) (pee_name 0) pee_int))).pt) (pess_cons (pes_set 5 sc.nd (pee_ife (pet_cmp (om_eqD (hu64 hu)) (pee_name 0) pee_int) pee_int pee_int)) (pess_one (pes_ret (pee_lc sc.nd (own := [("_law_key", 6)]) (l := [6]) (pei_rng1 T.n_range (pea_cons (pee_name 5) pea_nil)) ⟨⟨rfl, by first | decide +kernel | (dsimp only [cxOf, envOfC, compEnvC, relabel]; decide +kernel) | exact of_decide_eq_true (by kernel_rfl), by first | decide +kernel | (dsimp only [cxOf, envOfC, compEnvC, relabel]; decide +kernel) | exact of_decide_eq_true (by kernel_rfl), by first | decide +kernel | (dsimp only [cxOf, envOfC, compEnvC, relabel]; decide +kernel) | exact of_decide_eq_true (by kernel_rfl), by first | decide +kernel | (dsimp only [cxOf, envOfC, compEnvC, relabel]; decide +kernel) | exact of_decide_eq_true (by kernel_rfl)⟩, (tgN_ne _), by decide, fun _ _ _ _ _ => by exact peg_name 6 sc.nd, fun _ _ _ _ _ => by exact pets_one (pet_cmp (om_eqD (hu64 hu)) (pee_op om_mod (pee_ct cm_int T.n_int (pea_cons (pee_op om_shr (pee_name 3) (pee_name 6)) pea_nil)) pee_int) pee_int), fun _ _ _ _ _ => by exact pee_name 6⟩)))) pess_nil) (pess_cons (pes_set 4 sc.nd (pee_lst (pea_cons (pee_op om_mod (pee_ct cm_int T.n_int (pea_cons (pee_op om_div (pee_name 3) pee_int) pea_nil)) pee_int) pea_nil))) (pess_cons (pes_if (pet_cmp (om_eqD (hu64 hu)) (pee_name 0) pee_int) (pess_one (pes_set 4 sc.nd (pee_lst (pea_cons (pee_name 1) (pea_cons (pee_op om_add (pee_name 1) pee_int) pea_nil))))) pess_nil) (pess_cons (pes_if (pet_cmp (om_eqD (hu64 hu)) (pee_name 0) pee_int) (pess_one (pes_set 4 sc.nd (pee_ife (pet_cmp (om_eqD (hu64 hu)) (pee_name 1) pee_int) (pee_lr1 T.n_list T.n_range (pee_op om_sub (pee_name 2) pee_int)) (pee_lst (pea_cons (pee_op om_sub (pee_name 1) pee_int) pea_nil))))) pess_nil) (pess_cons (pes_if (pet_cmp (om_eqD (hu64 hu)) (pee_name 0) pee_int) (pess_one (pes_set 4 sc.nd (pee_lst (pea_cons (pee_name 1) (pea_cons (pee_op om_mod (pee_ct cm_int T.n_int (pea_cons (pee_op om_add (pee_name 1) pee_int) pea_nil)) (pee_name 2)) pea_nil))))) pess_nil) (pess_cons (pes_if ((pew_or (pet_cmp (om_eqD (hu64 hu)) (pee_name 0) pee_int) (pew_or1 (pet_cmp (om_eqD (hu64 hu)) (pee_op om_mod (pee_ct cm_int T.n_int (pea_cons (pee_op om_div (pee_name 3) pee_int) pea_nil)) pee_int) pee_int))).pt) (pess_one (pes_set 4 sc.nd (pee_op om_add (pee_name 4) (pee_lst (pea_cons (pee_op om_mod (pee_ct cm_int T.n_int (pea_cons (pee_name 3) pea_nil)) pee_int) pea_nil))))) pess_nil) (pess_one (pes_ret (pee_lc sc.nd (own := [("_law_key", 6)]) (l := [6]) (pei_rng1 T.n_range (pea_cons pee_int pea_nil)) ⟨⟨rfl, by first | decide +kernel | (dsimp only [cxOf, envOfC, compEnvC, relabel]; decide +kernel) | exact of_decide_eq_true (by kernel_rfl), by first | decide +kernel | (dsimp only [cxOf, envOfC, compEnvC, relabel]; decide +kernel) | exact of_decide_eq_true (by kernel_rfl), by first | decide +kernel | (dsimp only [cxOf, envOfC, compEnvC, relabel]; decide +kernel) | exact of_decide_eq_true (by kernel_rfl), by first | decide +kernel | (dsimp only [cxOf, envOfC, compEnvC, relabel]; decide +kernel) | exact of_decide_eq_true (by kernel_rfl)⟩, (tgN_ne _), by decide, fun _ _ _ _ _ => by exact peg_name 6 sc.nd, fun _ _ _ _ _ => by exact pets_one (pet_cmp (om_in (hu65 hu)) (pee_name 6) (pee_name 4)), fun _ _ _ _ _ => by exact pee_name 6⟩))))))))
theorem sc__law_rows : FnScope ["_law_cell_here", "_law_least", "_law_top", "_law_numbers_here", "_law_many", "_law_copy"] ["_law_cell_here", "_law_least", "_law_top"] (defScope s__law_rows) := ⟨rfl, rfl, rfl, by decide +kernel, rfl, by decide +kernel, by decide +kernel⟩
noncomputable def b__law_rows : Mo Fl := mSeq (mAsg 3 (mCall 3 m__law_numbers (mCons (mName 0) (mCons (mC (.int 1)) (mCons (mBin fAdd (mLst (mCons (mC (.int 6)) (mCons (mBin fSub (mBin fAdd (mC (.int 1)) (mName 2)) (mName 1)) mNil))) (mBin fMul (mLst (mCons (mC (.int 256)) mNil)) (mC (.int 6)))) mNil))))) (mSeq (mAsg 4 (mBin fAdd (mName 1) (mBin fIx (mName 3) (mC (.int 1))))) (mRet (mLc [5] (mRng1 (mCons (mName 4) mNil)) (tgN 5) mYes (mCall 4 m__law_row (mCons (mBin fIx (mName 3) (mC (.int 0))) (mCons (mName 5) (mCons (mName 4) (mCons (mBin fIx (mName 3) (mBin fAdd (mC (.int 2)) (mName 5))) mNil))))))))
noncomputable def m__law_rows : Fn := fnM 6 b__law_rows
theorem ok__law_rows (T : Tx P K mg) : FnM P w K mg base 2 T.f__law_rows T.fd__law_rows ["_law_cell_here", "_law_least", "_law_top"] m__law_rows := have sc := sc__law_rows; defM2 T.F__law_rows sc rfl fun cdv A outer s H E hr hu tk pa => pess_cons (pes_set 3 sc.nd (pee_callN rfl (ok__law_numbers T) (hr.mono (by decide)) T.g__law_numbers T.F__law_numbers.kp T.b__law_numbers tk (pea_cons (pee_name 0) (pea_cons pee_int (pea_cons (pee_op om_add (pee_lst (pea_cons pee_int (pea_cons (pee_op om_sub (pee_op om_add pee_int (pee_name 2)) (pee_name 1)) pea_nil))) (pee_op om_mul (pee_lst (pea_cons pee_int pea_nil)) pee_int)) pea_nil))))) (pess_cons (pes_set 4 sc.nd (pee_op om_add (pee_name 1) (pee_ix (xm_ix (hu1 hu)) (pee_name 3) pee_int))) (pess_one (pes_ret (pee_lc sc.nd (own := [("_law_copy", 5)]) (l := [5]) (pei_rng1 T.n_range (pea_cons (pee_name 4) pea_nil)) ⟨⟨rfl, by first | decide +kernel | (dsimp only [cxOf, envOfC, compEnvC, relabel]; decide +kernel) | exact of_decide_eq_true (by kernel_rfl), by first | decide +kernel | (dsimp only [cxOf, envOfC, compEnvC, relabel]; decide +kernel) | exact of_decide_eq_true (by kernel_rfl), by first | decide +kernel | (dsimp only [cxOf, envOfC, compEnvC, relabel]; decide +kernel) | exact of_decide_eq_true (by kernel_rfl), by first | decide +kernel | (dsimp only [cxOf, envOfC, compEnvC, relabel]; decide +kernel) | exact of_decide_eq_true (by kernel_rfl)⟩, (tgN_ne _), by decide, fun _ _ _ _ _ => by exact peg_name 5 sc.nd, fun _ _ _ _ _ => by exact pets_nil, fun _ _ _ _ _ => by exact pee_callN rfl (ok__law_row T) (hr.mono (by decide)) T.g__law_row T.F__law_row.kp T.b__law_row tk0 (pea_cons (pee_ix (xm_ix (hu1 hu)) (pee_name 3) pee_int) (pea_cons (pee_name 5) (pea_cons (pee_name 4) (pea_cons (pee_ix (xm_ix (hu1 hu)) (pee_name 3) (pee_op om_add pee_int (pee_name 5))) pea_nil))))⟩))))
theorem sc__law_cell : FnScope ["_law_script", "_law_k"] ["_law_script", "_law_k"] (defScope s__law_cell) := ⟨rfl, rfl, rfl, by decide +kernel, rfl, by decide +kernel, by decide +kernel⟩
noncomputable def b__law_cell : Mo Fl := mSeq (mIf (mB (mBin fLt (mName 1) (mCB fLen (mCons (mName 0) mNil)))) (mRet (mBin fIx (mName 0) (mName 1))) mNext) (mRet (mC (.int 0)))
noncomputable def m__law_cell : Fn := fnM 2 b__law_cell
theorem ok__law_cell (T : Tx P K mg) : FnM P w K mg base 1 T.f__law_cell T.fd__law_cell ["_law_script", "_law_k"] m__law_cell := have sc := sc__law_cell; defM2 T.F__law_cell sc rfl fun cdv A outer s H E hr hu tk pa => pess_cons (pes_if (pet_cmp om_lt (pee_name 1) (pee_cb cm_len T.n_len (pea_cons (pee_name 0) pea_nil))) (pess_one (pes_ret (pee_ix (xm_ix (hu1 hu)) (pee_name 0) (pee_name 1)))) pess_nil) (pess_one (pes_ret pee_int))
theorem sc_Layout___init__ : FnScope ["self", "rows", "kept", "row", "key"] ["self", "rows"] (defScope s_Layout___init__) := ⟨rfl, rfl, rfl, by decide +kernel, rfl, by decide +kernel, by decide +kernel⟩
noncomputable def b_Layout___init__ : Mo Fl := mSeq (mIf (mNot (mB (mChain fLe fLe (mC (.int 1)) (mCB fLen (mCons (mName 1) mNil)) (mC (.int 6))))) (mRaise0 "BadLayout") mNext) (mSeq (mAsg 2 (mLst mNil)) (mSeq (mFor (mIter (mName 1)) (tgN 3) (mSeq (mFor (mIter (mName 3)) (tgN 4) (mIf (mNot (mB (mChain fLe fLt (mC (.int 0)) (mName 4) (mC (.int 8))))) (mRaise "BadKey" ["key"] (mCons (mName 4) mNil)) mNext)) (mDrop (mMut .lst fAppend (mName 2) (mCons (mCB fTuple (mCons (mLc [4] (mRng1 (mCons (mC (.int 8)) mNil)) (tgN 4) (mB (mBin (fIn false) (mName 4) (mName 3))) (mName 4)) mNil)) mNil))))) (mSeq (mSetF fn_rows "rows" (mName 0) (mName 2)) (mSetF fn_masks "masks" (mName 0) (mLc [3] (mIter (mName 2)) (tgN 3) mYes (mCB fSum (mCons (mLc [4] (mIter (mName 3)) (tgN 4) mYes (mBin fShl (mC (.int 1)) (mName 4))) mNil)))))))
noncomputable def m_Layout___init__ : Fn := fnM 5 b_Layout___init__
theorem ok_Layout___init__ (T : Tx P K mg) : FnM P w K mg base 3 T.f_Layout___init__ T.fd_Layout___init__ ["self", "rows"] m_Layout___init__ := have sc := sc_Layout___init__; defM2 T.F_Layout___init__ sc rfl fun cdv A outer s H E hr hu tk pa => pess_cons (pes_if (pet_not (pet_chain om_le om_le pee_int (pee_cb cm_len T.n_len (pea_cons (pee_name 1) pea_nil)) (pee_gint T.v_MOST_COPIES))) (pess_one (pes_raiseT T.c_BadLayout PySem.F.excBase_ValueError T.xi_BadLayout T.kp_BadLayout (raises_own T.xb_BadLayout T.xt_BadLayout) tk)) pess_nil) (pess_cons (pes_set 2 sc.nd (pee_lst pea_nil)) (pess_cons (pes_for pa (pei_seq (pee_name 1)) (peg_name 3 sc.nd) (pess_cons (pes_for pa (pei_seq (pee_name 3)) (peg_name 4 sc.nd) (pess_one (pes_if (pet_not (pet_chain om_le om_lt pee_int (pee_name 4) (pee_gint T.v_MOST_KEYS))) (pess_one (pes_raise (fs := ["key"]) T.c_BadKey T.ox_BadKey T.xn_BadKey (by decide) T.xf1_BadKey T.xf2_BadKey (xok_BadKey T) (hr.mono (by decide)) T.b_BadKey___init__ tk (pea_cons (pee_name 4) pea_nil))) pess_nil))) (pess_one (pes_expr (pee_mut (k := .lst) PySem.F.plainAttrs_list PySem.F.slot_list_append PySem.F.type_list_append mt_append mu_append (pee_name 2) (pea_cons (pee_ct cm_tuple T.n_tuple (pea_cons (pee_lc sc.nd (own := [("key", 4)]) (l := [4]) (pei_rng1 T.n_range (pea_cons (pee_gint T.v_MOST_KEYS) pea_nil)) ⟨⟨rfl, by first | decide +kernel | (dsimp only [cxOf, envOfC, compEnvC, relabel]; decide +kernel) | exact of_decide_eq_true (by kernel_rfl), by first | decide +kernel | (dsimp only [cxOf, envOfC, compEnvC, relabel]; decide +kernel) | exact of_decide_eq_true (by kernel_rfl), by first | decide +kernel | (dsimp only [cxOf, envOfC, compEnvC, relabel]; decide +kernel) | exact of_decide_eq_true (by kernel_rfl), by first | decide +kernel | (dsimp only [cxOf, envOfC, compEnvC, relabel]; decide +kernel) | exact of_decide_eq_true (by kernel_rfl)⟩, (tgN_ne _), by decide, fun _ _ _ _ _ => by exact peg_name 4 sc.nd, fun _ _ _ _ _ => by exact pets_one (pet_cmp (om_in (hu65 hu)) (pee_name 4) (pee_name 3)), fun _ _ _ _ _ => by exact pee_name 4⟩) pea_nil)) pea_nil)))))) (pess_cons (pes_fld T.fd_rows (pee_name 0) (pee_name 2)) (pess_one (pes_fld T.fd_masks (pee_name 0) (pee_lc sc.nd (own := [("row", 3)]) (l := [3]) (pei_seq (pee_name 2)) ⟨⟨rfl, by first | decide +kernel | (dsimp only [cxOf, envOfC, compEnvC, relabel]; decide +kernel) | exact of_decide_eq_true (by kernel_rfl), by first | decide +kernel | (dsimp only [cxOf, envOfC, compEnvC, relabel]; decide +kernel) | exact of_decide_eq_true (by kernel_rfl), by first | decide +kernel | (dsimp only [cxOf, envOfC, compEnvC, relabel]; decide +kernel) | exact of_decide_eq_true (by kernel_rfl), by first | decide +kernel | (dsimp only [cxOf, envOfC, compEnvC, relabel]; decide +kernel) | exact of_decide_eq_true (by kernel_rfl)⟩, (tgN_ne _), by decide, fun _ _ _ _ _ => by exact peg_name 3 sc.nd, fun _ _ _ _ _ => by exact pets_nil, fun _ _ _ _ _ => by exact pee_cb cm_sum T.n_sum (pea_cons (pee_lc sc.nd (own := [("key", 4)]) (l := [4]) (pei_seq (pee_name 3)) ⟨⟨rfl, by first | decide +kernel | (dsimp only [cxOf, envOfC, compEnvC, relabel]; decide +kernel) | exact of_decide_eq_true (by kernel_rfl), by first | decide +kernel | (dsimp only [cxOf, envOfC, compEnvC, relabel]; decide +kernel) | exact of_decide_eq_true (by kernel_rfl), by first | decide +kernel | (dsimp only [cxOf, envOfC, compEnvC, relabel]; decide +kernel) | exact of_decide_eq_true (by kernel_rfl), by first | decide +kernel | (dsimp only [cxOf, envOfC, compEnvC, relabel]; decide +kernel) | exact of_decide_eq_true (by kernel_rfl)⟩, (tgN_ne _), by decide, fun _ _ _ _ _ => by exact peg_name 4 sc.nd, fun _ _ _ _ _ => by exact pets_nil, fun _ _ _ _ _ => by exact pee_op om_shl pee_int (pee_name 4)⟩) pea_nil)⟩))))))
theorem sc__law_lines : FnScope ["_law_rows_here", "_law_found", "_law_sender", "_law_taker", "_law_key"] ["_law_rows_here"] (defScope s__law_lines) := ⟨rfl, rfl, rfl, by decide +kernel, rfl, by decide +kernel, by decide +kernel⟩
noncomputable def b__law_lines : Mo Fl := mSeq (mAsg 1 (mLst mNil)) (mSeq (mFor (mRng1 (mCons (mCB fLen (mCons (mName 0) mNil)) mNil)) (tgN 2) (mFor (mRng1 (mCons (mCB fLen (mCons (mName 0) mNil)) mNil)) (tgN 3) (mIf (mAnd (mB (mBin fNeD (mName 2) (mName 3))) (mB (mBin fNeD (mLc [4] (mIter (mBin fIx (mName 0) (mName 2))) (tgN 4) (mB (mBin (fIn false) (mName 4) (mBin fIx (mName 0) (mName 3)))) (mName 4)) (mLst mNil)))) (mDrop (mMut .lst fAppend (mName 1) (mCons (mTup (mCons (mName 2) (mCons (mName 3) mNil))) mNil))) mNext))) (mRet (mName 1)))
noncomputable def m__law_lines : Fn := fnM 5 b__law_lines
theorem ok__law_lines (T : Tx P K mg) : FnM P w K mg base 1 T.f__law_lines T.fd__law_lines ["_law_rows_here"] m__law_lines := have sc := sc__law_lines; defM2 T.F__law_lines sc rfl fun cdv A outer s H E hr hu tk pa => pess_cons (pes_set 1 sc.nd (pee_lst pea_nil)) (pess_cons (pes_for pa (pei_rng1 T.n_range (pea_cons (pee_cb cm_len T.n_len (pea_cons (pee_name 0) pea_nil)) pea_nil)) (peg_name 2 sc.nd) (pess_one (pes_for pa (pei_rng1 T.n_range (pea_cons (pee_cb cm_len T.n_len (pea_cons (pee_name 0) pea_nil)) pea_nil)) (peg_name 3 sc.nd) (pess_one (pes_if ((pew_and (pet_cmp (om_neD (hu64 hu)) (pee_name 2) (pee_name 3)) (pew_and1 (pet_cmp (om_neD (hu64 hu)) (pee_lc sc.nd (own := [("_law_key", 4)]) (l := [4]) (pei_seq (pee_ix (xm_ix (hu1 hu)) (pee_name 0) (pee_name 2))) ⟨⟨rfl, by first | decide +kernel | (dsimp only [cxOf, envOfC, compEnvC, relabel]; decide +kernel) | exact of_decide_eq_true (by kernel_rfl), by first | decide +kernel | (dsimp only [cxOf, envOfC, compEnvC, relabel]; decide +kernel) | exact of_decide_eq_true (by kernel_rfl), by first | decide +kernel | (dsimp only [cxOf, envOfC, compEnvC, relabel]; decide +kernel) | exact of_decide_eq_true (by kernel_rfl), by first | decide +kernel | (dsimp only [cxOf, envOfC, compEnvC, relabel]; decide +kernel) | exact of_decide_eq_true (by kernel_rfl)⟩, (tgN_ne _), by decide, fun _ _ _ _ _ => by exact peg_name 4 sc.nd, fun _ _ _ _ _ => by exact pets_one (pet_cmp (om_in (hu65 hu)) (pee_name 4) (pee_ix (xm_ix (hu1 hu)) (pee_name 0) (pee_name 3))), fun _ _ _ _ _ => by exact pee_name 4⟩) (pee_lst pea_nil)))).pt) (pess_one (pes_expr (pee_mut (k := .lst) PySem.F.plainAttrs_list PySem.F.slot_list_append PySem.F.type_list_append mt_append mu_append (pee_name 1) (pea_cons (pee_tup (pea_cons (pee_name 2) (pea_cons (pee_name 3) pea_nil))) pea_nil)))) pess_nil))))) (pess_one (pes_ret (pee_name 1))))
theorem sc__law_longer : FnScope ["_law_paths", "_law_many", "_law_taker", "_law_found", "_law_path", "_law_copy"] ["_law_paths", "_law_many", "_law_taker"] (defScope s__law_longer) := ⟨rfl, rfl, rfl, by decide +kernel, rfl, by decide +kernel, by decide +kernel⟩
noncomputable def b__law_longer : Mo Fl := mSeq (mAsg 3 (mLst mNil)) (mSeq (mFor (mIter (mName 0)) (tgN 4) (mAsg 3 (mBin fAdd (mName 3) (mLc [5] (mRng1 (mCons (mName 1) mNil)) (tgN 5) (mAnd (mB (mBin fNeD (mName 5) (mName 2))) (mB (mBin (fIn true) (mName 5) (mName 4)))) (mBin fAdd (mName 4) (mTup (mCons (mName 5) mNil))))))) (mRet (mName 3)))
noncomputable def m__law_longer : Fn := fnM 6 b__law_longer
theorem ok__law_longer (T : Tx P K mg) : FnM P w K mg base 1 T.f__law_longer T.fd__law_longer ["_law_paths", "_law_many", "_law_taker"] m__law_longer := have sc := sc__law_longer; defM2 T.F__law_longer sc rfl fun cdv A outer s H E hr hu tk pa => pess_cons (pes_set 3 sc.nd (pee_lst pea_nil)) (pess_cons (pes_for pa (pei_seq (pee_name 0)) (peg_name 4 sc.nd) (pess_one (pes_set 3 sc.nd (pee_op om_add (pee_name 3) (pee_lc sc.nd (own := [("_law_copy", 5)]) (l := [5]) (pei_rng1 T.n_range (pea_cons (pee_name 1) pea_nil)) ⟨⟨rfl, by first | decide +kernel | (dsimp only [cxOf, envOfC, compEnvC, relabel]; decide +kernel) | exact of_decide_eq_true (by kernel_rfl), by first | decide +kernel | (dsimp only [cxOf, envOfC, compEnvC, relabel]; decide +kernel) | exact of_decide_eq_true (by kernel_rfl), by first | decide +kernel | (dsimp only [cxOf, envOfC, compEnvC, relabel]; decide +kernel) | exact of_decide_eq_true (by kernel_rfl), by first | decide +kernel | (dsimp only [cxOf, envOfC, compEnvC, relabel]; decide +kernel) | exact of_decide_eq_true (by kernel_rfl)⟩, (tgN_ne _), by decide, fun _ _ _ _ _ => by exact peg_name 5 sc.nd, fun _ _ _ _ _ => by exact pets_one ((pew_and (pet_cmp (om_neD (hu64 hu)) (pee_name 5) (pee_name 2)) (pew_and1 (pet_cmp (om_notIn (hu65 hu)) (pee_name 5) (pee_name 4)))).pt), fun _ _ _ _ _ => by exact pee_op om_add (pee_name 4) (pee_tup (pea_cons (pee_name 5) pea_nil))⟩))))) (pess_one (pes_ret (pee_name 3))))
theorem sc__law_keys_of : FnScope ["_law_rows_here", "_law_one", "_law_two", "_law_away", "_law_key", "_law_copy"] ["_law_rows_here", "_law_one", "_law_two", "_law_away"] (defScope s__law_keys_of) := ⟨rfl, rfl, rfl, by decide +kernel, rfl, by decide +kernel, by decide +kernel⟩
noncomputable def b__law_keys_of : Mo Fl := mRet (mLc [4] (mIter (mBin fIx (mName 0) (mName 1))) (tgN 4) (mAnd (mB (mBin (fIn false) (mName 4) (mBin fIx (mName 0) (mName 2)))) (mNot (mB (mCB fAny (mCons (mLc [5] (mIter (mName 3)) (tgN 5) mYes (mBin (fIn false) (mName 4) (mBin fIx (mName 0) (mName 5)))) mNil))))) (mName 4))
noncomputable def m__law_keys_of : Fn := fnM 6 b__law_keys_of
theorem ok__law_keys_of (T : Tx P K mg) : FnM P w K mg base 1 T.f__law_keys_of T.fd__law_keys_of ["_law_rows_here", "_law_one", "_law_two", "_law_away"] m__law_keys_of := have sc := sc__law_keys_of; defM2 T.F__law_keys_of sc rfl fun cdv A outer s H E hr hu tk pa => pess_one (pes_ret (pee_lc sc.nd (own := [("_law_key", 4)]) (l := [4]) (pei_seq (pee_ix (xm_ix (hu1 hu)) (pee_name 0) (pee_name 1))) ⟨⟨rfl, by first | decide +kernel | (dsimp only [cxOf, envOfC, compEnvC, relabel]; decide +kernel) | exact of_decide_eq_true (by kernel_rfl), by first | decide +kernel | (dsimp only [cxOf, envOfC, compEnvC, relabel]; decide +kernel) | exact of_decide_eq_true (by kernel_rfl), by first | decide +kernel | (dsimp only [cxOf, envOfC, compEnvC, relabel]; decide +kernel) | exact of_decide_eq_true (by kernel_rfl), by first | decide +kernel | (dsimp only [cxOf, envOfC, compEnvC, relabel]; decide +kernel) | exact of_decide_eq_true (by kernel_rfl)⟩, (tgN_ne _), by decide, fun _ _ _ _ _ => by exact peg_name 4 sc.nd, fun _ _ _ _ _ => by exact pets_one ((pew_and (pet_cmp (om_in (hu65 hu)) (pee_name 4) (pee_ix (xm_ix (hu1 hu)) (pee_name 0) (pee_name 2))) (pew_and1 (pet_not (pet_val (pee_cb cm_any T.n_any (pea_cons (pee_lc sc.nd (own := [("_law_copy", 5)]) (l := [5]) (pei_seq (pee_name 3)) ⟨⟨rfl, by first | decide +kernel | (dsimp only [cxOf, envOfC, compEnvC, relabel]; decide +kernel) | exact of_decide_eq_true (by kernel_rfl), by first | decide +kernel | (dsimp only [cxOf, envOfC, compEnvC, relabel]; decide +kernel) | exact of_decide_eq_true (by kernel_rfl), by first | decide +kernel | (dsimp only [cxOf, envOfC, compEnvC, relabel]; decide +kernel) | exact of_decide_eq_true (by kernel_rfl), by first | decide +kernel | (dsimp only [cxOf, envOfC, compEnvC, relabel]; decide +kernel) | exact of_decide_eq_true (by kernel_rfl)⟩, (tgN_ne _), by decide, fun _ _ _ _ _ => by exact peg_name 5 sc.nd, fun _ _ _ _ _ => by exact pets_nil, fun _ _ _ _ _ => by exact pee_cmp (om_in (hu65 hu)) (pee_name 4) (pee_ix (xm_ix (hu1 hu)) (pee_name 0) (pee_name 5))⟩) pea_nil)))))).pt), fun _ _ _ _ _ => by exact pee_name 4⟩))
theorem sc__law_is_chain : FnScope ["_law_rows_here", "_law_chain", "_law_path", "_law_taker", "_law_at"] ["_law_rows_here", "_law_chain"] (defScope s__law_is_chain) := ⟨rfl, rfl, rfl, by decide +kernel, rfl, by decide +kernel, by decide +kernel⟩
noncomputable def b__law_is_chain : Mo Fl := mSeq (mAsg 2 (mSl (mName 1) mNoPart (mPart (mUn fNeg (mC (.int 1)))))) (mSeq (mAsg 3 (mBin fIx (mName 1) (mUn fNeg (mC (.int 1))))) (mSeq (mIf (mOr (mB (mBin fEqD (mCall 4 m__law_keys_of (mCons (mName 0) (mCons (mBin fIx (mName 2) (mC (.int 0))) (mCons (mName 3) (mCons (mSl (mName 2) (mPart (mC (.int 2))) mNoPart) mNil))))) (mLst mNil))) (mB (mBin fEqD (mCall 4 m__law_keys_of (mCons (mName 0) (mCons (mBin fIx (mName 2) (mC (.int 0))) (mCons (mBin fIx (mName 2) (mC (.int 1))) (mCons (mSl (mName 2) (mPart (mC (.int 2))) mNoPart) mNil))))) (mLst mNil)))) (mRet (mC (.bl false))) mNext) (mSeq (mFor (mRng2 (mCons (mC (.int 1)) (mCons (mBin fSub (mCB fLen (mCons (mName 2) mNil)) (mC (.int 1))) mNil))) (tgN 4) (mIf (mB (mBin fEqD (mCall 4 m__law_keys_of (mCons (mName 0) (mCons (mBin fIx (mName 2) (mName 4)) (mCons (mBin fIx (mName 2) (mBin fAdd (mName 4) (mC (.int 1)))) (mCons (mBin fAdd (mSl (mName 2) (mPart (mBin fAdd (mName 4) (mC (.int 2)))) mNoPart) (mTup (mCons (mName 3) mNil))) mNil))))) (mLst mNil))) (mRet (mC (.bl false))) mNext)) (mRet (mBin fNeD (mCall 4 m__law_keys_of (mCons (mName 0) (mCons (mBin fIx (mName 2) (mUn fNeg (mC (.int 1)))) (mCons (mName 3) (mCons (mTup mNil) mNil))))) (mLst mNil))))))
noncomputable def _law_is_chain_s0 : Mo Fl := (mAsg 2 (mSl (mName 1) mNoPart (mPart (mUn fNeg (mC (.int 1))))))
noncomputable def _law_is_chain_s1 : Mo Fl := (mAsg 3 (mBin fIx (mName 1) (mUn fNeg (mC (.int 1)))))
noncomputable def _law_is_chain_s2 : Mo Fl := (mIf (mOr (mB (mBin fEqD (mCall 4 m__law_keys_of (mCons (mName 0) (mCons (mBin fIx (mName 2) (mC (.int 0))) (mCons (mName 3) (mCons (mSl (mName 2) (mPart (mC (.int 2))) mNoPart) mNil))))) (mLst mNil))) (mB (mBin fEqD (mCall 4 m__law_keys_of (mCons (mName 0) (mCons (mBin fIx (mName 2) (mC (.int 0))) (mCons (mBin fIx (mName 2) (mC (.int 1))) (mCons (mSl (mName 2) (mPart (mC (.int 2))) mNoPart) mNil))))) (mLst mNil)))) (mRet (mC (.bl false))) mNext)
noncomputable def _law_is_chain_s3b_s0 : Mo Fl := (mIf (mB (mBin fEqD (mCall 4 m__law_keys_of (mCons (mName 0) (mCons (mBin fIx (mName 2) (mName 4)) (mCons (mBin fIx (mName 2) (mBin fAdd (mName 4) (mC (.int 1)))) (mCons (mBin fAdd (mSl (mName 2) (mPart (mBin fAdd (mName 4) (mC (.int 2)))) mNoPart) (mTup (mCons (mName 3) mNil))) mNil))))) (mLst mNil))) (mRet (mC (.bl false))) mNext)
noncomputable def _law_is_chain_s3b_t0 : Mo Fl := _law_is_chain_s3b_s0
noncomputable def _law_is_chain_s3 : Mo Fl := mFor (mRng2 (mCons (mC (.int 1)) (mCons (mBin fSub (mCB fLen (mCons (mName 2) mNil)) (mC (.int 1))) mNil))) (tgN 4) _law_is_chain_s3b_t0
noncomputable def _law_is_chain_s4 : Mo Fl := (mRet (mBin fNeD (mCall 4 m__law_keys_of (mCons (mName 0) (mCons (mBin fIx (mName 2) (mUn fNeg (mC (.int 1)))) (mCons (mName 3) (mCons (mTup mNil) mNil))))) (mLst mNil)))
noncomputable def _law_is_chain_t4 : Mo Fl := _law_is_chain_s4
noncomputable def _law_is_chain_t3 : Mo Fl := mSeq _law_is_chain_s3 _law_is_chain_t4
noncomputable def _law_is_chain_t2 : Mo Fl := mSeq _law_is_chain_s2 _law_is_chain_t3
noncomputable def _law_is_chain_t1 : Mo Fl := mSeq _law_is_chain_s1 _law_is_chain_t2
noncomputable def _law_is_chain_t0 : Mo Fl := mSeq _law_is_chain_s0 _law_is_chain_t1
theorem _law_is_chain_cut : b__law_is_chain = _law_is_chain_t0 := rfl
noncomputable def m__law_is_chain : Fn := fnM 5 b__law_is_chain
theorem ok__law_is_chain (T : Tx P K mg) : FnM P w K mg base 2 T.f__law_is_chain T.fd__law_is_chain ["_law_rows_here", "_law_chain"] m__law_is_chain := have sc := sc__law_is_chain; defM2 T.F__law_is_chain sc rfl fun cdv A outer s H E hr hu tk pa => pess_cons (pes_set 2 sc.nd (pee_sl (pee_name 1) peo_none (peo_some (pee_un um_neg pee_int)))) (pess_cons (pes_set 3 sc.nd (pee_ix (xm_ix (hu1 hu)) (pee_name 1) (pee_un um_neg pee_int))) (pess_cons (pes_if ((pew_or (pet_cmp (om_eqD (hu64 hu)) (pee_callN rfl (ok__law_keys_of T) (hr.mono (by decide)) T.g__law_keys_of T.F__law_keys_of.kp T.b__law_keys_of tk (pea_cons (pee_name 0) (pea_cons (pee_ix (xm_ix (hu1 hu)) (pee_name 2) pee_int) (pea_cons (pee_name 3) (pea_cons (pee_sl (pee_name 2) (peo_some pee_int) peo_none) pea_nil))))) (pee_lst pea_nil)) (pew_or1 (pet_cmp (om_eqD (hu64 hu)) (pee_callN rfl (ok__law_keys_of T) (hr.mono (by decide)) T.g__law_keys_of T.F__law_keys_of.kp T.b__law_keys_of tk (pea_cons (pee_name 0) (pea_cons (pee_ix (xm_ix (hu1 hu)) (pee_name 2) pee_int) (pea_cons (pee_ix (xm_ix (hu1 hu)) (pee_name 2) pee_int) (pea_cons (pee_sl (pee_name 2) (peo_some pee_int) peo_none) pea_nil))))) (pee_lst pea_nil)))).pt) (pess_one (pes_ret pee_bl)) pess_nil) (pess_cons (pes_for pa (pei_rng2 T.n_range (pea_cons pee_int (pea_cons (pee_op om_sub (pee_cb cm_len T.n_len (pea_cons (pee_name 2) pea_nil)) pee_int) pea_nil))) (peg_name 4 sc.nd) (pess_one (pes_if (pet_cmp (om_eqD (hu64 hu)) (pee_callN rfl (ok__law_keys_of T) (hr.mono (by decide)) T.g__law_keys_of T.F__law_keys_of.kp T.b__law_keys_of tk (pea_cons (pee_name 0) (pea_cons (pee_ix (xm_ix (hu1 hu)) (pee_name 2) (pee_name 4)) (pea_cons (pee_ix (xm_ix (hu1 hu)) (pee_name 2) (pee_op om_add (pee_name 4) pee_int)) (pea_cons (pee_op om_add (pee_sl (pee_name 2) (peo_some (pee_op om_add (pee_name 4) pee_int)) peo_none) (pee_tup (pea_cons (pee_name 3) pea_nil))) pea_nil))))) (pee_lst pea_nil)) (pess_one (pes_ret pee_bl)) pess_nil))) (pess_one (pes_ret (pee_cmp (om_neD (hu64 hu)) (pee_callN rfl (ok__law_keys_of T) (hr.mono (by decide)) T.g__law_keys_of T.F__law_keys_of.kp T.b__law_keys_of tk (pea_cons (pee_name 0) (pea_cons (pee_ix (xm_ix (hu1 hu)) (pee_name 2) (pee_un um_neg pee_int)) (pea_cons (pee_name 3) (pea_cons (pee_tup pea_nil) pea_nil))))) (pee_lst pea_nil)))))))
theorem sc__law_chains : FnScope ["_law_rows_here", "_law_sender", "_law_taker", "_law_found", "_law_paths", "_law_size", "_law_path"] ["_law_rows_here", "_law_sender", "_law_taker"] (defScope s__law_chains) := ⟨rfl, rfl, rfl, by decide +kernel, rfl, by decide +kernel, by decide +kernel⟩
noncomputable def b__law_chains : Mo Fl := mSeq (mAsg 3 (mLst mNil)) (mSeq (mAsg 4 (mLst (mCons (mTup (mCons (mName 1) mNil)) mNil))) (mSeq (mFor (mRng1 (mCons (mBin fSub (mCB fLen (mCons (mName 0) mNil)) (mC (.int 2))) mNil)) (tgN 5) (mSeq (mAsg 4 (mCall 3 m__law_longer (mCons (mName 4) (mCons (mCB fLen (mCons (mName 0) mNil)) (mCons (mName 2) mNil))))) (mAsg 3 (mBin fAdd (mName 3) (mLc [6] (mIter (mName 4)) (tgN 6) (mB (mCall 2 m__law_is_chain (mCons (mName 0) (mCons (mBin fAdd (mName 6) (mTup (mCons (mName 2) mNil))) mNil)))) (mBin fAdd (mName 6) (mTup (mCons (mName 2) mNil)))))))) (mRet (mName 3))))
noncomputable def _law_chains_s0 : Mo Fl := (mAsg 3 (mLst mNil))
noncomputable def _law_chains_s1 : Mo Fl := (mAsg 4 (mLst (mCons (mTup (mCons (mName 1) mNil)) mNil)))
noncomputable def _law_chains_s2b_s0 : Mo Fl := (mAsg 4 (mCall 3 m__law_longer (mCons (mName 4) (mCons (mCB fLen (mCons (mName 0) mNil)) (mCons (mName 2) mNil)))))
noncomputable def _law_chains_s2b_s1 : Mo Fl := (mAsg 3 (mBin fAdd (mName 3) (mLc [6] (mIter (mName 4)) (tgN 6) (mB (mCall 2 m__law_is_chain (mCons (mName 0) (mCons (mBin fAdd (mName 6) (mTup (mCons (mName 2) mNil))) mNil)))) (mBin fAdd (mName 6) (mTup (mCons (mName 2) mNil))))))
noncomputable def _law_chains_s2b_t1 : Mo Fl := _law_chains_s2b_s1
noncomputable def _law_chains_s2b_t0 : Mo Fl := mSeq _law_chains_s2b_s0 _law_chains_s2b_t1
noncomputable def _law_chains_s2 : Mo Fl := mFor (mRng1 (mCons (mBin fSub (mCB fLen (mCons (mName 0) mNil)) (mC (.int 2))) mNil)) (tgN 5) _law_chains_s2b_t0
noncomputable def _law_chains_s3 : Mo Fl := (mRet (mName 3))
noncomputable def _law_chains_t3 : Mo Fl := _law_chains_s3
noncomputable def _law_chains_t2 : Mo Fl := mSeq _law_chains_s2 _law_chains_t3
noncomputable def _law_chains_t1 : Mo Fl := mSeq _law_chains_s1 _law_chains_t2
noncomputable def _law_chains_t0 : Mo Fl := mSeq _law_chains_s0 _law_chains_t1
theorem _law_chains_cut : b__law_chains = _law_chains_t0 := rfl
noncomputable def m__law_chains : Fn := fnM 7 b__law_chains
theorem ok__law_chains (T : Tx P K mg) : FnM P w K mg base 3 T.f__law_chains T.fd__law_chains ["_law_rows_here", "_law_sender", "_law_taker"] m__law_chains := have sc := sc__law_chains; defM2 T.F__law_chains sc rfl fun cdv A outer s H E hr hu tk pa => pess_cons (pes_set 3 sc.nd (pee_lst pea_nil)) (pess_cons (pes_set 4 sc.nd (pee_lst (pea_cons (pee_tup (pea_cons (pee_name 1) pea_nil)) pea_nil))) (pess_cons (pes_for pa (pei_rng1 T.n_range (pea_cons (pee_op om_sub (pee_cb cm_len T.n_len (pea_cons (pee_name 0) pea_nil)) pee_int) pea_nil)) (peg_name 5 sc.nd) (pess_cons (pes_set 4 sc.nd (pee_callN rfl (ok__law_longer T) (hr.mono (by decide)) T.g__law_longer T.F__law_longer.kp T.b__law_longer tk (pea_cons (pee_name 4) (pea_cons (pee_cb cm_len T.n_len (pea_cons (pee_name 0) pea_nil)) (pea_cons (pee_name 2) pea_nil))))) (pess_one (pes_set 3 sc.nd (pee_op om_add (pee_name 3) (pee_lc sc.nd (own := [("_law_path", 6)]) (l := [6]) (pei_seq (pee_name 4)) ⟨⟨rfl, by first | decide +kernel | (dsimp only [cxOf, envOfC, compEnvC, relabel]; decide +kernel) | exact of_decide_eq_true (by kernel_rfl), by first | decide +kernel | (dsimp only [cxOf, envOfC, compEnvC, relabel]; decide +kernel) | exact of_decide_eq_true (by kernel_rfl), by first | decide +kernel | (dsimp only [cxOf, envOfC, compEnvC, relabel]; decide +kernel) | exact of_decide_eq_true (by kernel_rfl), by first | decide +kernel | (dsimp only [cxOf, envOfC, compEnvC, relabel]; decide +kernel) | exact of_decide_eq_true (by kernel_rfl)⟩, (tgN_ne _), by decide, fun _ _ _ _ _ => by exact peg_name 6 sc.nd, fun _ _ _ _ _ => by exact pets_one (pet_val (pee_callN rfl (ok__law_is_chain T) (hr.mono (by decide)) T.g__law_is_chain T.F__law_is_chain.kp T.b__law_is_chain tk0 (pea_cons (pee_name 0) (pea_cons (pee_op om_add (pee_name 6) (pee_tup (pea_cons (pee_name 2) pea_nil))) pea_nil)))), fun _ _ _ _ _ => by exact pee_op om_add (pee_name 6) (pee_tup (pea_cons (pee_name 2) pea_nil))⟩)))))) (pess_one (pes_ret (pee_name 3)))))
theorem sc__law_due : FnScope ["_law_rows_here", "_law_sender", "_law_taker"] ["_law_rows_here", "_law_sender", "_law_taker"] (defScope s__law_due) := ⟨rfl, rfl, rfl, by decide +kernel, rfl, by decide +kernel, by decide +kernel⟩
noncomputable def b__law_due : Mo Fl := mSeq (mIf (mOr (mB (mBin fEqD (mName 1) (mName 2))) (mOr (mNot (mB (mChain fLe fLt (mC (.int 0)) (mName 1) (mCB fLen (mCons (mName 0) mNil))))) (mNot (mB (mChain fLe fLt (mC (.int 0)) (mName 2) (mCB fLen (mCons (mName 0) mNil))))))) (mRet (mLst mNil)) mNext) (mRet (mCall 3 m__law_chains (mCons (mName 0) (mCons (mName 1) (mCons (mName 2) mNil)))))
noncomputable def m__law_due : Fn := fnM 3 b__law_due
theorem ok__law_due (T : Tx P K mg) : FnM P w K mg base 4 T.f__law_due T.fd__law_due ["_law_rows_here", "_law_sender", "_law_taker"] m__law_due := have sc := sc__law_due; defM2 T.F__law_due sc rfl fun cdv A outer s H E hr hu tk pa => pess_cons (pes_if ((pew_or (pet_cmp (om_eqD (hu64 hu)) (pee_name 1) (pee_name 2)) (pew_or (pet_not (pet_chain om_le om_lt pee_int (pee_name 1) (pee_cb cm_len T.n_len (pea_cons (pee_name 0) pea_nil)))) (pew_or1 (pet_not (pet_chain om_le om_lt pee_int (pee_name 2) (pee_cb cm_len T.n_len (pea_cons (pee_name 0) pea_nil))))))).pt) (pess_one (pes_ret (pee_lst pea_nil))) pess_nil) (pess_one (pes_ret (pee_callN rfl (ok__law_chains T) (hr.mono (by decide)) T.g__law_chains T.F__law_chains.kp T.b__law_chains tk (pea_cons (pee_name 0) (pea_cons (pee_name 1) (pea_cons (pee_name 2) pea_nil))))))
theorem sc__law_is_int : FnScope ["_law_given"] ["_law_given"] (defScope s__law_is_int) := ⟨rfl, rfl, rfl, by decide +kernel, rfl, by decide +kernel, by decide +kernel⟩
noncomputable def b__law_is_int : Mo Fl := mRet (mAndV (mIs ti_int (mName 0)) (mNotV (mIs ti_bool (mName 0))))
noncomputable def m__law_is_int : Fn := fnM 1 b__law_is_int
theorem okw__law_is_int (T : Tx P K mg) : FnW P w K mg base 1 T.f__law_is_int T.fd__law_is_int ["_law_given"] m__law_is_int := have sc := sc__law_is_int; defW2 T.F__law_is_int sc rfl fun cdv A outer s H E hr hu tk pa => pess_one (pes_ret (pee_and (pee_is T.ist_int (ClsV.ty _) (fun _ => by exact pe_bltn rfl T.n_int (by decide +kernel) rfl) T.n_isinstance (pee_name 0)) (pee_one (pee_not (pee_is T.ist_bool (ClsV.ty _) (fun _ => by exact pe_bltn rfl T.n_bool (by decide +kernel) rfl) T.n_isinstance (pee_name 0))))))
theorem ok__law_is_int (T : Tx P K mg) : FnM P w K mg base 1 T.f__law_is_int T.fd__law_is_int ["_law_given"] m__law_is_int := (okw__law_is_int T).toM
theorem sc__law_same_rows : FnScope ["_law_told", "_law_due_here", "_law_k", "_law_part"] ["_law_told", "_law_due_here"] (defScope s__law_same_rows) := ⟨rfl, rfl, rfl, by decide +kernel, rfl, by decide +kernel, by decide +kernel⟩
noncomputable def b__law_same_rows : Mo Fl := mSeq (mIf (mOr (mNot (mB (mIs ti_list (mName 0)))) (mB (mBin fNeD (mCB fLen (mCons (mName 0) mNil)) (mCB fLen (mCons (mName 1) mNil))))) (mRet (mC (.bl false))) mNext) (mSeq (mFor (mRng1 (mCons (mCB fLen (mCons (mName 1) mNil)) mNil)) (tgN 2) (mSeq (mIf (mOr (mNot (mB (mIs ti_tuple (mBin fIx (mName 0) (mName 2))))) (mB (mBin fNeD (mBin fIx (mName 0) (mName 2)) (mBin fIx (mName 1) (mName 2))))) (mRet (mC (.bl false))) mNext) (mIf (mNot (mB (mCB fAll (mCons (mLc [3] (mIter (mBin fIx (mName 0) (mName 2))) (tgN 3) mYes (mCall 1 m__law_is_int (mCons (mName 3) mNil))) mNil)))) (mRet (mC (.bl false))) mNext))) (mRet (mC (.bl true))))
noncomputable def m__law_same_rows : Fn := fnM 4 b__law_same_rows
theorem ok__law_same_rows (T : Tx P K mg) : FnM P w K mg base 2 T.f__law_same_rows T.fd__law_same_rows ["_law_told", "_law_due_here"] m__law_same_rows := have sc := sc__law_same_rows; defM2 T.F__law_same_rows sc rfl fun cdv A outer s H E hr hu tk pa => pess_cons (pes_if ((pew_or (pet_not (pet_val (pee_is T.ist_list (ClsV.ty _) (fun _ => by exact pe_bltn rfl T.n_list (by decide +kernel) rfl) T.n_isinstance (pee_name 0)))) (pew_or1 (pet_cmp (om_neD (hu64 hu)) (pee_cb cm_len T.n_len (pea_cons (pee_name 0) pea_nil)) (pee_cb cm_len T.n_len (pea_cons (pee_name 1) pea_nil))))).pt) (pess_one (pes_ret pee_bl)) pess_nil) (pess_cons (pes_for pa (pei_rng1 T.n_range (pea_cons (pee_cb cm_len T.n_len (pea_cons (pee_name 1) pea_nil)) pea_nil)) (peg_name 2 sc.nd) (pess_cons (pes_if ((pew_or (pet_not (pet_val (pee_is T.ist_tuple (ClsV.ty _) (fun _ => by exact pe_bltn rfl T.n_tuple (by decide +kernel) rfl) T.n_isinstance (pee_ix (xm_ix (hu1 hu)) (pee_name 0) (pee_name 2))))) (pew_or1 (pet_cmp (om_neD (hu64 hu)) (pee_ix (xm_ix (hu1 hu)) (pee_name 0) (pee_name 2)) (pee_ix (xm_ix (hu1 hu)) (pee_name 1) (pee_name 2))))).pt) (pess_one (pes_ret pee_bl)) pess_nil) (pess_one (pes_if (pet_not (pet_val (pee_cb cm_all T.n_all (pea_cons (pee_lc sc.nd (own := [("_law_part", 3)]) (l := [3]) (pei_seq (pee_ix (xm_ix (hu1 hu)) (pee_name 0) (pee_name 2))) ⟨⟨rfl, by first | decide +kernel | (dsimp only [cxOf, envOfC, compEnvC, relabel]; decide +kernel) | exact of_decide_eq_true (by kernel_rfl), by first | decide +kernel | (dsimp only [cxOf, envOfC, compEnvC, relabel]; decide +kernel) | exact of_decide_eq_true (by kernel_rfl), by first | decide +kernel | (dsimp only [cxOf, envOfC, compEnvC, relabel]; decide +kernel) | exact of_decide_eq_true (by kernel_rfl), by first | decide +kernel | (dsimp only [cxOf, envOfC, compEnvC, relabel]; decide +kernel) | exact of_decide_eq_true (by kernel_rfl)⟩, (tgN_ne _), by decide, fun _ _ _ _ _ => by exact peg_name 3 sc.nd, fun _ _ _ _ _ => by exact pets_nil, fun _ _ _ _ _ => by exact pee_callN rfl (ok__law_is_int T) (hr.mono (by decide)) T.g__law_is_int T.F__law_is_int.kp T.b__law_is_int tk0 (pea_cons (pee_name 3) pea_nil)⟩) pea_nil)))) (pess_one (pes_ret pee_bl)) pess_nil)))) (pess_one (pes_ret pee_bl)))
theorem sc_Layout___len__ : FnScope ["self"] ["self"] (defScope s_Layout___len__) := ⟨rfl, rfl, rfl, by decide +kernel, rfl, by decide +kernel, by decide +kernel⟩
noncomputable def b_Layout___len__ : Mo Fl := mRet (mCB fLen (mCons (mUn (fFld fn_rows "rows") (mName 0)) mNil))
noncomputable def m_Layout___len__ : Fn := fnM 1 b_Layout___len__
theorem ok_Layout___len__ (T : Tx P K mg) : FnM P w K mg base 1 T.f_Layout___len__ T.fd_Layout___len__ ["self"] m_Layout___len__ := have sc := sc_Layout___len__; defM2 T.F_Layout___len__ sc rfl fun cdv A outer s H E hr hu tk pa => pess_one (pes_ret (pee_cb cm_len T.n_len (pea_cons (pee_fld T.fd_rows (pee_name 0)) pea_nil)))
theorem sc_is_path : FnScope ["layout", "chain", "copy"] ["layout", "chain"] (defScope s_is_path) := ⟨rfl, rfl, rfl, by decide +kernel, rfl, by decide +kernel, by decide +kernel⟩
noncomputable def b_is_path : Mo Fl := mSeq (mIf (mOr (mB (mBin fLt (mCB fLen (mCons (mName 1) mNil)) (mC (.int 3)))) (mB (mBin fLt (mLenSetT (mName 1)) (mCB fLen (mCons (mName 1) mNil))))) (mRet (mC (.bl false))) mNext) (mRet (mCB fAll (mCons (mLc [2] (mIter (mName 1)) (tgN 2) mYes (mChain fLe fLt (mC (.int 0)) (mName 2) (mLenO "Layout" m_Layout___len__ (mCons (mName 0) mNil)))) mNil)))
noncomputable def m_is_path : Fn := fnM 3 b_is_path
theorem ok_is_path (T : Tx P K mg) : FnM P w K mg base 3 T.f_is_path T.fd_is_path ["layout", "chain"] m_is_path := have sc := sc_is_path; defM2 T.F_is_path sc rfl fun cdv A outer s H E hr hu tk pa => pess_cons (pes_if ((pew_or (pet_cmp om_lt (pee_cb cm_len T.n_len (pea_cons (pee_name 1) pea_nil)) pee_int) (pew_or1 (pet_cmp om_lt (pee_lenSetT rfl T.n_len T.n_set (pee_name 1)) (pee_cb cm_len T.n_len (pea_cons (pee_name 1) pea_nil))))).pt) (pess_one (pes_ret pee_bl)) pess_nil) (pess_one (pes_ret (pee_cb cm_all T.n_all (pea_cons (pee_lc sc.nd (own := [("copy", 2)]) (l := [2]) (pei_seq (pee_name 1)) ⟨⟨rfl, by first | decide +kernel | (dsimp only [cxOf, envOfC, compEnvC, relabel]; decide +kernel) | exact of_decide_eq_true (by kernel_rfl), by first | decide +kernel | (dsimp only [cxOf, envOfC, compEnvC, relabel]; decide +kernel) | exact of_decide_eq_true (by kernel_rfl), by first | decide +kernel | (dsimp only [cxOf, envOfC, compEnvC, relabel]; decide +kernel) | exact of_decide_eq_true (by kernel_rfl), by first | decide +kernel | (dsimp only [cxOf, envOfC, compEnvC, relabel]; decide +kernel) | exact of_decide_eq_true (by kernel_rfl)⟩, (tgN_ne _), by decide, fun _ _ _ _ _ => by exact peg_name 2 sc.nd, fun _ _ _ _ _ => by exact pets_nil, fun _ _ _ _ _ => by exact pee_chain om_le om_lt pee_int (pee_name 2) (pee_lenO T.c_Layout (ok_Layout___len__ T) rfl (hr.mono (by decide)) T.b_Layout___len__ tk0 T.mt_Layout___len__.at_ T.mt_Layout___len__.fn T.n_len (pea_cons (pee_name 0) pea_nil))⟩) pea_nil))))
theorem sc_lowest : FnScope ["mask", "key"] ["mask"] (defScope s_lowest) := ⟨rfl, rfl, rfl, by decide +kernel, rfl, by decide +kernel, by decide +kernel⟩
noncomputable def b_lowest : Mo Fl := mSeq (mAsg 1 (mC (.int 0))) (mSeq (mWhile (mB (mBin fEqD (mBin fBAnd (mBin fShr (mName 0) (mName 1)) (mC (.int 1))) (mC (.int 0)))) (mAug 1 fAddA1 (mC (.int 1)))) (mRet (mName 1)))
noncomputable def m_lowest : Fn := fnM 2 b_lowest
theorem ok_lowest (T : Tx P K mg) : FnM P w K mg base 1 T.f_lowest T.fd_lowest ["mask"] m_lowest := have sc := sc_lowest; defM2 T.F_lowest sc rfl fun cdv A outer s H E hr hu tk pa => pess_cons (pes_set 1 sc.nd pee_int) (pess_cons (pes_while pa (pet_cmp (om_eqD (hu64 hu)) (pee_op om_band (pee_op om_shr (pee_name 0) (pee_name 1)) pee_int) pee_int) (pess_one (pes_aug 1 sc.nd ipm_add pee_int))) (pess_one (pes_ret (pee_name 1))))
theorem sc_chain_keys : FnScope ["layout", "chain", "masks", "ending", "choices", "later", "at", "first", "early", "keys", "taker", "path", "copy", "choice"] ["layout", "chain"] (defScope s_chain_keys) := ⟨rfl, rfl, rfl, by decide +kernel, rfl, by decide +kernel, by decide +kernel⟩
noncomputable def b_chain_keys : Mo Fl := mSeq (mIf (mNot (mB (mCall 2 m_is_path (mCons (mName 0) (mCons (mName 1) mNil))))) (mRet (mC .non)) mNext) (mSeq (mStar 11 10 (mName 1)) (mSeq (mAsg 2 (mLc [12] (mIter (mName 11)) (tgN 12) mYes (mBin fIx (mUn (fFld fn_masks "masks") (mName 0)) (mName 12)))) (mSeq (mAsg 3 (mBin fIx (mUn (fFld fn_masks "masks") (mName 0)) (mName 10))) (mSeq (mAsg 4 (mLst (mCons (mBin fBAnd (mBin fIx (mName 2) (mUn fNeg (mC (.int 1)))) (mName 3)) mNil))) (mSeq (mAsg 5 (mC (.int 0))) (mSeq (mFor (mRng3 (mCons (mBin fSub (mCB fLen (mCons (mName 11) mNil)) (mC (.int 2))) (mCons (mC (.int 0)) (mCons (mUn fNeg (mC (.int 1))) mNil)))) (tgN 6) (mSeq (mDrop (mMut .lst fAppend (mName 4) (mCons (mBin fBAnd (mBin fBAnd (mBin fBAnd (mBin fIx (mName 2) (mName 6)) (mBin fIx (mName 2) (mBin fAdd (mName 6) (mC (.int 1))))) (mUn fInv (mName 5))) (mUn fInv (mName 3))) mNil))) (mAug 5 fOrA1 (mBin fIx (mName 2) (mBin fAdd (mName 6) (mC (.int 1))))))) (mSeq (mAsg 7 (mBin fBAnd (mBin fBAnd (mBin fIx (mName 2) (mC (.int 0))) (mBin fIx (mName 2) (mC (.int 1)))) (mUn fInv (mName 5)))) (mSeq (mAsg 8 (mBin fBAnd (mBin fBAnd (mBin fIx (mName 2) (mC (.int 0))) (mName 3)) (mUn fInv (mName 5)))) (mSeq (mIf (mOr (mB (mBin fEqD (mName 7) (mC (.int 0)))) (mOr (mB (mBin fEqD (mName 8) (mC (.int 0)))) (mB (mBin (fIn false) (mC (.int 0)) (mName 4))))) (mRet (mC .non)) mNext) (mSeq (mAsg 9 (mLst (mCons (mCall 1 m_lowest (mCons (mName 8) mNil)) (mCons (mCall 1 m_lowest (mCons (mName 7) mNil)) mNil)))) (mSeq (mIf (mB (mBin fNeD (mBin fBAnd (mName 7) (mName 8)) (mC (.int 0)))) (mAsg 9 (mLst (mCons (mCall 1 m_lowest (mCons (mBin fBAnd (mName 7) (mName 8)) mNil)) mNil))) mNext) (mRet (mBin fAdd (mName 9) (mLc [13] (mIter (mRevL (mName 4))) (tgN 13) mYes (mCall 1 m_lowest (mCons (mName 13) mNil))))))))))))))))
noncomputable def chain_keys_s0 : Mo Fl := (mIf (mNot (mB (mCall 2 m_is_path (mCons (mName 0) (mCons (mName 1) mNil))))) (mRet (mC .non)) mNext)
noncomputable def chain_keys_s1 : Mo Fl := (mStar 11 10 (mName 1))
noncomputable def chain_keys_s2 : Mo Fl := (mAsg 2 (mLc [12] (mIter (mName 11)) (tgN 12) mYes (mBin fIx (mUn (fFld fn_masks "masks") (mName 0)) (mName 12))))
noncomputable def chain_keys_s3 : Mo Fl := (mAsg 3 (mBin fIx (mUn (fFld fn_masks "masks") (mName 0)) (mName 10)))
noncomputable def chain_keys_s4 : Mo Fl := (mAsg 4 (mLst (mCons (mBin fBAnd (mBin fIx (mName 2) (mUn fNeg (mC (.int 1)))) (mName 3)) mNil)))
noncomputable def chain_keys_s5 : Mo Fl := (mAsg 5 (mC (.int 0)))
noncomputable def chain_keys_s6b_s0 : Mo Fl := (mDrop (mMut .lst fAppend (mName 4) (mCons (mBin fBAnd (mBin fBAnd (mBin fBAnd (mBin fIx (mName 2) (mName 6)) (mBin fIx (mName 2) (mBin fAdd (mName 6) (mC (.int 1))))) (mUn fInv (mName 5))) (mUn fInv (mName 3))) mNil)))
noncomputable def chain_keys_s6b_s1 : Mo Fl := (mAug 5 fOrA1 (mBin fIx (mName 2) (mBin fAdd (mName 6) (mC (.int 1)))))
noncomputable def chain_keys_s6b_t1 : Mo Fl := chain_keys_s6b_s1
noncomputable def chain_keys_s6b_t0 : Mo Fl := mSeq chain_keys_s6b_s0 chain_keys_s6b_t1
noncomputable def chain_keys_s6 : Mo Fl := mFor (mRng3 (mCons (mBin fSub (mCB fLen (mCons (mName 11) mNil)) (mC (.int 2))) (mCons (mC (.int 0)) (mCons (mUn fNeg (mC (.int 1))) mNil)))) (tgN 6) chain_keys_s6b_t0
noncomputable def chain_keys_s7 : Mo Fl := (mAsg 7 (mBin fBAnd (mBin fBAnd (mBin fIx (mName 2) (mC (.int 0))) (mBin fIx (mName 2) (mC (.int 1)))) (mUn fInv (mName 5))))
noncomputable def chain_keys_s8 : Mo Fl := (mAsg 8 (mBin fBAnd (mBin fBAnd (mBin fIx (mName 2) (mC (.int 0))) (mName 3)) (mUn fInv (mName 5))))
noncomputable def chain_keys_s9 : Mo Fl := (mIf (mOr (mB (mBin fEqD (mName 7) (mC (.int 0)))) (mOr (mB (mBin fEqD (mName 8) (mC (.int 0)))) (mB (mBin (fIn false) (mC (.int 0)) (mName 4))))) (mRet (mC .non)) mNext)
noncomputable def chain_keys_s10 : Mo Fl := (mAsg 9 (mLst (mCons (mCall 1 m_lowest (mCons (mName 8) mNil)) (mCons (mCall 1 m_lowest (mCons (mName 7) mNil)) mNil))))
noncomputable def chain_keys_s11 : Mo Fl := (mIf (mB (mBin fNeD (mBin fBAnd (mName 7) (mName 8)) (mC (.int 0)))) (mAsg 9 (mLst (mCons (mCall 1 m_lowest (mCons (mBin fBAnd (mName 7) (mName 8)) mNil)) mNil))) mNext)
noncomputable def chain_keys_s12 : Mo Fl := (mRet (mBin fAdd (mName 9) (mLc [13] (mIter (mRevL (mName 4))) (tgN 13) mYes (mCall 1 m_lowest (mCons (mName 13) mNil)))))
noncomputable def chain_keys_t12 : Mo Fl := chain_keys_s12
noncomputable def chain_keys_t11 : Mo Fl := mSeq chain_keys_s11 chain_keys_t12
noncomputable def chain_keys_t10 : Mo Fl := mSeq chain_keys_s10 chain_keys_t11
noncomputable def chain_keys_t9 : Mo Fl := mSeq chain_keys_s9 chain_keys_t10
noncomputable def chain_keys_t8 : Mo Fl := mSeq chain_keys_s8 chain_keys_t9
noncomputable def chain_keys_t7 : Mo Fl := mSeq chain_keys_s7 chain_keys_t8
noncomputable def chain_keys_t6 : Mo Fl := mSeq chain_keys_s6 chain_keys_t7
noncomputable def chain_keys_t5 : Mo Fl := mSeq chain_keys_s5 chain_keys_t6
noncomputable def chain_keys_t4 : Mo Fl := mSeq chain_keys_s4 chain_keys_t5
noncomputable def chain_keys_t3 : Mo Fl := mSeq chain_keys_s3 chain_keys_t4
noncomputable def chain_keys_t2 : Mo Fl := mSeq chain_keys_s2 chain_keys_t3
noncomputable def chain_keys_t1 : Mo Fl := mSeq chain_keys_s1 chain_keys_t2
noncomputable def chain_keys_t0 : Mo Fl := mSeq chain_keys_s0 chain_keys_t1
theorem chain_keys_cut : b_chain_keys = chain_keys_t0 := rfl
noncomputable def m_chain_keys : Fn := fnM 14 b_chain_keys
theorem ok_chain_keys (T : Tx P K mg) : FnM P w K mg base 4 T.f_chain_keys T.fd_chain_keys ["layout", "chain"] m_chain_keys := have sc := sc_chain_keys; defM2 T.F_chain_keys sc rfl fun cdv A outer s H E hr hu tk pa => pess_cons (pes_if (pet_not (pet_val (pee_callN rfl (ok_is_path T) (hr.mono (by decide)) T.g_is_path T.F_is_path.kp T.b_is_path tk (pea_cons (pee_name 0) (pea_cons (pee_name 1) pea_nil))))) (pess_one (pes_ret pee_non)) pess_nil) (pess_cons (pes_star 11 10 sc.nd (by decide) rfl (pee_name 1)) (pess_cons (pes_setLc 2 sc.nd (own := [("copy", 12)]) (l := [12]) (pei_seq (pee_name 11)) ⟨⟨rfl, by first | decide +kernel | (dsimp only [cxOf, envOfC, compEnvC, relabel]; decide +kernel) | exact of_decide_eq_true (by kernel_rfl), by first | decide +kernel | (dsimp only [cxOf, envOfC, compEnvC, relabel]; decide +kernel) | exact of_decide_eq_true (by kernel_rfl), by first | decide +kernel | (dsimp only [cxOf, envOfC, compEnvC, relabel]; decide +kernel) | exact of_decide_eq_true (by kernel_rfl), by first | decide +kernel | (dsimp only [cxOf, envOfC, compEnvC, relabel]; decide +kernel) | exact of_decide_eq_true (by kernel_rfl)⟩, (tgN_ne _), by decide, fun _ _ _ _ _ => by exact peg_name 12 sc.nd, fun _ _ _ _ _ => by exact pets_nil, fun _ _ _ _ _ => by exact pee_ix (xm_ix (hu1 hu)) (pee_fld T.fd_masks (pee_name 0)) (pee_name 12)⟩) (pess_cons (pes_set 3 sc.nd (pee_ix (xm_ix (hu1 hu)) (pee_fld T.fd_masks (pee_name 0)) (pee_name 10))) (pess_cons (pes_set 4 sc.nd (pee_lst (pea_cons (pee_op om_band (pee_ix (xm_ix (hu1 hu)) (pee_name 2) (pee_un um_neg pee_int)) (pee_name 3)) pea_nil))) (pess_cons (pes_set 5 sc.nd pee_int) (pess_cons (pes_for pa (pei_rng3 T.n_range (pea_cons (pee_op om_sub (pee_cb cm_len T.n_len (pea_cons (pee_name 11) pea_nil)) pee_int) (pea_cons pee_int (pea_cons (pee_un um_neg pee_int) pea_nil)))) (peg_name 6 sc.nd) (pess_cons (pes_expr (pee_mut (k := .lst) PySem.F.plainAttrs_list PySem.F.slot_list_append PySem.F.type_list_append mt_append mu_append (pee_name 4) (pea_cons (pee_op om_band (pee_op om_band (pee_op om_band (pee_ix (xm_ix (hu1 hu)) (pee_name 2) (pee_name 6)) (pee_ix (xm_ix (hu1 hu)) (pee_name 2) (pee_op om_add (pee_name 6) pee_int))) (pee_un um_inv (pee_name 5))) (pee_un um_inv (pee_name 3))) pea_nil))) (pess_one (pes_aug 5 sc.nd ipm_or (pee_ix (xm_ix (hu1 hu)) (pee_name 2) (pee_op om_add (pee_name 6) pee_int)))))) (pess_cons (pes_set 7 sc.nd (pee_op om_band (pee_op om_band (pee_ix (xm_ix (hu1 hu)) (pee_name 2) pee_int) (pee_ix (xm_ix (hu1 hu)) (pee_name 2) pee_int)) (pee_un um_inv (pee_name 5)))) (pess_cons (pes_set 8 sc.nd (pee_op om_band (pee_op om_band (pee_ix (xm_ix (hu1 hu)) (pee_name 2) pee_int) (pee_name 3)) (pee_un um_inv (pee_name 5)))) (pess_cons (pes_if ((pew_or (pet_cmp (om_eqD (hu64 hu)) (pee_name 7) pee_int) (pew_or (pet_cmp (om_eqD (hu64 hu)) (pee_name 8) pee_int) (pew_or1 (pet_cmp (om_in (hu65 hu)) pee_int (pee_name 4))))).pt) (pess_one (pes_ret pee_non)) pess_nil) (pess_cons (pes_set 9 sc.nd (pee_lst (pea_cons (pee_callN rfl (ok_lowest T) (hr.mono (by decide)) T.g_lowest T.F_lowest.kp T.b_lowest tk (pea_cons (pee_name 8) pea_nil)) (pea_cons (pee_callN rfl (ok_lowest T) (hr.mono (by decide)) T.g_lowest T.F_lowest.kp T.b_lowest tk (pea_cons (pee_name 7) pea_nil)) pea_nil)))) (pess_cons (pes_if (pet_cmp (om_neD (hu64 hu)) (pee_op om_band (pee_name 7) (pee_name 8)) pee_int) (pess_one (pes_set 9 sc.nd (pee_lst (pea_cons (pee_callN rfl (ok_lowest T) (hr.mono (by decide)) T.g_lowest T.F_lowest.kp T.b_lowest tk (pea_cons (pee_op om_band (pee_name 7) (pee_name 8)) pea_nil)) pea_nil)))) pess_nil) (pess_one (pes_ret (pee_op om_add (pee_name 9) (pee_lc sc.nd (own := [("choice", 13)]) (l := [13]) (pei_seq (pee_revL (pee_name 4))) ⟨⟨rfl, by first | decide +kernel | (dsimp only [cxOf, envOfC, compEnvC, relabel]; decide +kernel) | exact of_decide_eq_true (by kernel_rfl), by first | decide +kernel | (dsimp only [cxOf, envOfC, compEnvC, relabel]; decide +kernel) | exact of_decide_eq_true (by kernel_rfl), by first | decide +kernel | (dsimp only [cxOf, envOfC, compEnvC, relabel]; decide +kernel) | exact of_decide_eq_true (by kernel_rfl), by first | decide +kernel | (dsimp only [cxOf, envOfC, compEnvC, relabel]; decide +kernel) | exact of_decide_eq_true (by kernel_rfl)⟩, (tgN_ne _), by decide, fun _ _ _ _ _ => by exact peg_name 13 sc.nd, fun _ _ _ _ _ => by exact pets_nil, fun _ _ _ _ _ => by exact pee_callN rfl (ok_lowest T) (hr.mono (by decide)) T.g_lowest T.F_lowest.kp T.b_lowest tk0 (pea_cons (pee_name 13) pea_nil)⟩)))))))))))))))
theorem sc_chains : GScope ["layout", "sender", "taker", "copies", "paths", "_", "path", "copy"] ["layout", "sender", "taker"] (defScope s_chains) := ⟨rfl, rfl, rfl, by decide +kernel, rfl, by decide +kernel, by decide +kernel⟩
noncomputable def b_chains : Gm := mGseq (mGp (chkG (mAsg 3 (mUn fLr1 (mLenO "Layout" m_Layout___len__ (mCons (mName 0) mNil)))))) (mGseq (mGp (chkG (mAsg 4 (mLst (mCons (mTup (mCons (mName 1) mNil)) mNil))))) (mGseq (mGfor (chkG (mRng1 (mCons (mBin fSub (mLenO "Layout" m_Layout___len__ (mCons (mName 0) mNil)) (mC (.int 2))) mNil))) (fun w => chkG (tgN 5 w)) (mGseq (mGp (chkG (mAsg 4 (mLc2 [6, 7] [7] (mIter (mName 4)) (tgN 6) mYes (mIter (mName 3)) (tgN 7) (mB (mBin (fIn true) (mName 7) (mBin fAdd (mName 6) (mTup (mCons (mName 2) mNil))))) (mBin fAdd (mName 6) (mTup (mCons (mName 7) mNil))))))) (mGseq (mGfor (chkG (mIter (mName 4))) (fun w => chkG (tgN 6 w)) (mGseq (mGif (chkG (mB (mBin fNotN (mCall 2 m_chain_keys (mCons (mName 0) (mCons (mBin fAdd (mName 6) (mTup (mCons (mName 2) mNil))) mNil))) (mC .non)))) (mGseq (mGy (chkG (mBin fAdd (mName 6) (mTup (mCons (mName 2) mNil))))) mGnil) mGnil) mGnil)) mGnil))) mGnil))
noncomputable def z_chains : List W → Option (List W) := genZ 8 b_chains
theorem okz_chains (T : Tx P K mg) : GZFn P w K mg base 5 T.f_chains T.fd_chains ["layout", "sender", "taker"] z_chains := have sc := sc_chains; defZ T.F_chains sc rfl fun cdv A outer pn s H hr => gz_cons (fam_s hr (fun s H ⟨hr, hu, tk, pa⟩ => pes_set 3 sc.nd (pee_lr1 T.n_list T.n_range (pee_lenO T.c_Layout (ok_Layout___len__ T) rfl (hr.mono (by decide)) T.b_Layout___len__ tk T.mt_Layout___len__.at_ T.mt_Layout___len__.fn T.n_len (pea_cons (pee_name 0) pea_nil))))) (gz_cons (fam_s hr (fun s H ⟨hr, hu, tk, pa⟩ => pes_set 4 sc.nd (pee_lst (pea_cons (pee_tup (pea_cons (pee_name 1) pea_nil)) pea_nil)))) (gz_cons (fam_for hr (fun s H ⟨hr, hu, tk, pa⟩ => pei_rng1 T.n_range (pea_cons (pee_op om_sub (pee_lenO T.c_Layout (ok_Layout___len__ T) rfl (hr.mono (by decide)) T.b_Layout___len__ tk T.mt_Layout___len__.at_ T.mt_Layout___len__.fn T.n_len (pea_cons (pee_name 0) pea_nil)) pee_int) pea_nil)) (fun s H ⟨hr, hu, tk, pa⟩ => peg_name 5 sc.nd) (gz_cons (fam_s hr (fun s H ⟨hr, hu, tk, pa⟩ => pes_setLc2 4 sc.nd (own := [("path", 6), ("copy", 7)]) (l := [6]) (vs1 := [7]) (l1 := [7]) (pei_seq (pee_name 4)) ⟨⟨rfl, by first | decide +kernel | (dsimp only [cxOf, envOfC, compEnvC, relabel]; decide +kernel) | exact of_decide_eq_true (by kernel_rfl), by first | decide +kernel | (dsimp only [cxOf, envOfC, compEnvC, relabel]; decide +kernel) | exact of_decide_eq_true (by kernel_rfl), by first | decide +kernel | (dsimp only [cxOf, envOfC, compEnvC, relabel]; decide +kernel) | exact of_decide_eq_true (by kernel_rfl), by first | decide +kernel | (dsimp only [cxOf, envOfC, compEnvC, relabel]; decide +kernel) | exact of_decide_eq_true (by kernel_rfl)⟩, (tgN_ne _), by decide, (tgN_ne _), by decide, by decide, fun _ _ _ _ _ => by exact peg_name 6 sc.nd, fun _ _ _ _ _ => by exact pets_nil, fun _ _ _ _ _ => by exact pei_seq (pee_name 3), fun _ _ _ _ _ => by exact peg_name 7 sc.nd, fun _ _ _ _ _ => by exact pets_one (pet_cmp (om_notIn (hu65 hu)) (pee_name 7) (pee_op om_add (pee_name 6) (pee_tup (pea_cons (pee_name 2) pea_nil)))), fun _ _ _ _ _ => by exact pee_op om_add (pee_name 6) (pee_tup (pea_cons (pee_name 7) pea_nil))⟩)) (gz_cons (fam_for hr (fun s H ⟨hr, hu, tk, pa⟩ => pei_seq (pee_name 4)) (fun s H ⟨hr, hu, tk, pa⟩ => peg_name 6 sc.nd) (gz_cons (fam_if hr (fun s H ⟨hr, hu, tk, pa⟩ => pet_cmp om_notN (pee_callN rfl (ok_chain_keys T) (hr.mono (by decide)) T.g_chain_keys T.F_chain_keys.kp T.b_chain_keys tk (pea_cons (pee_name 0) (pea_cons (pee_op om_add (pee_name 6) (pee_tup (pea_cons (pee_name 2) pea_nil))) pea_nil))) pee_non) (gz_cons (fam_yield hr (fun s H ⟨hr, hu, tk, pa⟩ => pee_op om_add (pee_name 6) (pee_tup (pea_cons (pee_name 2) pea_nil)))) gz_nil) gz_nil) gz_nil)) gz_nil))) gz_nil))
noncomputable def m_chains : Gn := genM 8 b_chains
theorem ok_chains (T : Tx P K mg) : GnM P w K mg base 5 T.f_chains T.fd_chains ["layout", "sender", "taker"] m_chains := have sc := sc_chains; defG T.F_chains sc rfl fun cdv A outer s H E pn hr hu tk pa => pgss_cons (pgs_plain (pes_chk (pes_set 3 sc.nd (pee_lr1 T.n_list T.n_range (pee_lenO T.c_Layout (ok_Layout___len__ T) rfl (hr.mono (by decide)) T.b_Layout___len__ tk T.mt_Layout___len__.at_ T.mt_Layout___len__.fn T.n_len (pea_cons (pee_name 0) pea_nil)))))) (pgss_cons (pgs_plain (pes_chk (pes_set 4 sc.nd (pee_lst (pea_cons (pee_tup (pea_cons (pee_name 1) pea_nil)) pea_nil))))) (pgss_cons (pgs_for pa (pei_chk (pei_rng1 T.n_range (pea_cons (pee_op om_sub (pee_lenO T.c_Layout (ok_Layout___len__ T) rfl (hr.mono (by decide)) T.b_Layout___len__ tk T.mt_Layout___len__.at_ T.mt_Layout___len__.fn T.n_len (pea_cons (pee_name 0) pea_nil)) pee_int) pea_nil))) (peg_chk (peg_name 5 sc.nd)) (pgss_cons (pgs_plain (pes_chk (pes_setLc2 4 sc.nd (own := [("path", 6), ("copy", 7)]) (l := [6]) (vs1 := [7]) (l1 := [7]) (pei_seq (pee_name 4)) ⟨⟨rfl, by first | decide +kernel | (dsimp only [cxOf, envOfC, compEnvC, relabel]; decide +kernel) | exact of_decide_eq_true (by kernel_rfl), by first | decide +kernel | (dsimp only [cxOf, envOfC, compEnvC, relabel]; decide +kernel) | exact of_decide_eq_true (by kernel_rfl), by first | decide +kernel | (dsimp only [cxOf, envOfC, compEnvC, relabel]; decide +kernel) | exact of_decide_eq_true (by kernel_rfl), by first | decide +kernel | (dsimp only [cxOf, envOfC, compEnvC, relabel]; decide +kernel) | exact of_decide_eq_true (by kernel_rfl)⟩, (tgN_ne _), by decide, (tgN_ne _), by decide, by decide, fun _ _ _ _ _ => by exact peg_name 6 sc.nd, fun _ _ _ _ _ => by exact pets_nil, fun _ _ _ _ _ => by exact pei_seq (pee_name 3), fun _ _ _ _ _ => by exact peg_name 7 sc.nd, fun _ _ _ _ _ => by exact pets_one (pet_cmp (om_notIn (hu65 hu)) (pee_name 7) (pee_op om_add (pee_name 6) (pee_tup (pea_cons (pee_name 2) pea_nil)))), fun _ _ _ _ _ => by exact pee_op om_add (pee_name 6) (pee_tup (pea_cons (pee_name 7) pea_nil))⟩))) (pgss_cons (pgs_for pa (pei_chk (pei_seq (pee_name 4))) (peg_chk (peg_name 6 sc.nd)) (pgss_cons (pgs_if (pet_chk (pet_cmp om_notN (pee_callN rfl (ok_chain_keys T) (hr.mono (by decide)) T.g_chain_keys T.F_chain_keys.kp T.b_chain_keys tk (pea_cons (pee_name 0) (pea_cons (pee_op om_add (pee_name 6) (pee_tup (pea_cons (pee_name 2) pea_nil))) pea_nil))) pee_non)) (pgss_cons (pgs_yield (pee_chk (pee_op om_add (pee_name 6) (pee_tup (pea_cons (pee_name 2) pea_nil))))) pgss_nil) pgss_nil) pgss_nil)) pgss_nil))) pgss_nil))
theorem sc_Layout___iter__ : FnScope ["self"] ["self"] (defScope s_Layout___iter__) := ⟨rfl, rfl, rfl, by decide +kernel, rfl, by decide +kernel, by decide +kernel⟩
theorem ok_Layout___iter__ (T : Tx P K mg) : FnOk P w K mg base (L2.CX P w) 1 T.f_Layout___iter__ T.fd_Layout___iter__ ["self"] (spIt T.C_Layout "rows" (fun u S => ∃ l zs, u = .ref l ∧ S = srcL K l zs)) := defIt T.F_Layout___iter__ sc_Layout___iter__ rfl T.cl_Layout T.nI_Layout T.n_iter rfl (fun _ _ => rfl) (fun _ => rfl) (fun _ => rfl)
theorem sc_law : FnScope ["_law_script", "_law_rows_here", "_law_layout", "_law_many", "_law_lines_here", "_law_place", "_law_numbers_here", "_law_due_here", "_law_told", "_law_chain", "_law_sender", "_law_taker", "_law_other", "_law_row_here"] ["_law_script"] (defScope s_law) := ⟨rfl, rfl, rfl, by decide +kernel, rfl, by decide +kernel, by decide +kernel⟩
noncomputable def b_law : Mo Fl := mSeq (mAsg 1 (mCall 3 m__law_rows (mCons (mCall 2 m__law_cell (mCons (mName 0) (mCons (mC (.int 0)) mNil))) (mCons (mC (.int 1)) (mCons (mC (.int 6)) mNil))))) (mSeq (mAsg 2 (mMake "Layout" 2 m_Layout___init__ [] (mCons (mLc [13] (mIter (mName 1)) (tgN 13) mYes (mCB fList (mCons (mName 13) mNil))) mNil))) (mSeq (mAsg 3 (mCB fLen (mCons (mName 1) mNil))) (mSeq (mAsg 4 (mCall 1 m__law_lines (mCons (mName 1) mNil))) (mSeq (mFor (mRng2 (mCons (mC (.int 1)) (mCons (mC (.int 4)) mNil))) (tgN 5) (mSeq (mAsg 6 (mCall 3 m__law_numbers (mCons (mCall 2 m__law_cell (mCons (mName 0) (mCons (mName 5) mNil))) (mCons (mBin fAdd (mC (.int 5)) (mName 5)) (mCons (mLst (mCons (mC (.int 4)) (mCons (mC (.int 8)) (mCons (mC (.int 8)) (mCons (mBin fPow (mC (.int 10)) (mC (.int 9))) (mCons (mC (.int 30)) mNil)))))) mNil))))) (mSeq (mPar2 10 11 (mCons (mBin fMod (mCB fInt1 (mCons (mBin fIx (mName 6) (mC (.int 1))) mNil)) (mName 3)) (mCons (mBin fMod (mCB fInt1 (mCons (mBin fIx (mName 6) (mC (.int 2))) mNil)) (mName 3)) mNil))) (mSeq (mIf (mAnd (mB (mBin fGt (mBin fIx (mName 6) (mC (.int 0))) (mC (.int 1)))) (mB (mBin fNeD (mName 4) (mLst mNil)))) (mAsgT (tgT 2 (tgsCons (tgN 10) (tgsCons (tgN 11) tgsNil))) (mBin fIx (mName 4) (mBin fMod (mCB fInt1 (mCons (mBin fIx (mName 6) (mC (.int 4))) mNil)) (mCB fLen (mCons (mName 4) mNil))))) mNext) (mSeq (mIf (mB (mBin fEqD (mBin fIx (mName 6) (mC (.int 0))) (mC (.int 1)))) (mSeq (mPar2 10 11 (mCons (mBin fSub (mBin fMod (mCB fInt1 (mCons (mBin fIx (mName 6) (mC (.int 1))) mNil)) (mBin fAdd (mName 3) (mC (.int 2)))) (mC (.int 1))) (mCons (mBin fSub (mBin fMod (mCB fInt1 (mCons (mBin fIx (mName 6) (mC (.int 2))) mNil)) (mBin fAdd (mName 3) (mC (.int 2)))) (mC (.int 1))) mNil))) (mSeq (mIf (mB (mBin fEqD (mBin fIx (mName 6) (mC (.int 1))) (mC (.int 7)))) (mAsg 10 (mBin fAdd (mName 10) (mBin fIx (mName 6) (mC (.int 3))))) mNext) (mIf (mB (mBin fEqD (mBin fIx (mName 6) (mC (.int 2))) (mC (.int 7)))) (mAsg 11 (mBin fSub (mUn fNeg (mC (.int 1))) (mBin fIx (mName 6) (mC (.int 3))))) mNext))) mNext) (mSeq (mAsg 7 (mCall 3 m__law_due (mCons (mName 1) (mCons (mName 10) (mCons (mName 11) mNil))))) (mSeq (mIf (mNot (mB (mCall 2 m__law_same_rows (mCons (mListF 3 m_chains (mCons (mName 2) (mCons (mName 10) (mCons (mName 11) mNil)))) (mCons (mName 7) mNil))))) (mRet (mC (.bl false))) mNext) (mSeq (mAsg 8 (mLst mNil)) (mSeq (mForZ 3 z_chains (mCons (mName 2) (mCons (mName 10) (mCons (mName 11) mNil))) (tgN 9) (mSeq (mDrop (mMut .lst fAppend (mName 8) (mCons (mName 9) mNil))) (mForZ 3 z_chains (mCons (mName 2) (mCons (mName 11) (mCons (mName 10) mNil))) (tgN 12) (mSeq (mIf (mOr (mB (mBin fLt (mCB fLen (mCons (mName 12) mNil)) (mC (.int 3)))) (mB (mBin fNeD (mBin fIx (mName 12) (mC (.int 0))) (mName 11)))) (mRet (mC (.bl false))) mNext) mBreak)))) (mIf (mNot (mB (mCall 2 m__law_same_rows (mCons (mName 8) (mCons (mName 7) mNil))))) (mRet (mC (.bl false))) mNext)))))))))) (mRet (mCall 2 m__law_same_rows (mCons (mListO "Layout" "rows" m_Layout___len__ (mCons (mName 2) mNil)) (mCons (mLc [13] (mIter (mName 1)) (tgN 13) mYes (mCB fTuple (mCons (mName 13) mNil))) mNil))))))))
noncomputable def law_s0 : Mo Fl := (mAsg 1 (mCall 3 m__law_rows (mCons (mCall 2 m__law_cell (mCons (mName 0) (mCons (mC (.int 0)) mNil))) (mCons (mC (.int 1)) (mCons (mC (.int 6)) mNil)))))
noncomputable def law_s1 : Mo Fl := (mAsg 2 (mMake "Layout" 2 m_Layout___init__ [] (mCons (mLc [13] (mIter (mName 1)) (tgN 13) mYes (mCB fList (mCons (mName 13) mNil))) mNil)))
noncomputable def law_s2 : Mo Fl := (mAsg 3 (mCB fLen (mCons (mName 1) mNil)))
noncomputable def law_s3 : Mo Fl := (mAsg 4 (mCall 1 m__law_lines (mCons (mName 1) mNil)))
noncomputable def law_s4b_s0 : Mo Fl := (mAsg 6 (mCall 3 m__law_numbers (mCons (mCall 2 m__law_cell (mCons (mName 0) (mCons (mName 5) mNil))) (mCons (mBin fAdd (mC (.int 5)) (mName 5)) (mCons (mLst (mCons (mC (.int 4)) (mCons (mC (.int 8)) (mCons (mC (.int 8)) (mCons (mBin fPow (mC (.int 10)) (mC (.int 9))) (mCons (mC (.int 30)) mNil)))))) mNil)))))
noncomputable def law_s4b_s1 : Mo Fl := (mPar2 10 11 (mCons (mBin fMod (mCB fInt1 (mCons (mBin fIx (mName 6) (mC (.int 1))) mNil)) (mName 3)) (mCons (mBin fMod (mCB fInt1 (mCons (mBin fIx (mName 6) (mC (.int 2))) mNil)) (mName 3)) mNil)))
noncomputable def law_s4b_s2a_s0 : Mo Fl := (mAsgT (tgT 2 (tgsCons (tgN 10) (tgsCons (tgN 11) tgsNil))) (mBin fIx (mName 4) (mBin fMod (mCB fInt1 (mCons (mBin fIx (mName 6) (mC (.int 4))) mNil)) (mCB fLen (mCons (mName 4) mNil)))))
noncomputable def law_s4b_s2a_t0 : Mo Fl := law_s4b_s2a_s0
noncomputable def law_s4b_s2 : Mo Fl := mIf (mAnd (mB (mBin fGt (mBin fIx (mName 6) (mC (.int 0))) (mC (.int 1)))) (mB (mBin fNeD (mName 4) (mLst mNil)))) law_s4b_s2a_t0 mNext
noncomputable def law_s4b_s3a_s0 : Mo Fl := (mPar2 10 11 (mCons (mBin fSub (mBin fMod (mCB fInt1 (mCons (mBin fIx (mName 6) (mC (.int 1))) mNil)) (mBin fAdd (mName 3) (mC (.int 2)))) (mC (.int 1))) (mCons (mBin fSub (mBin fMod (mCB fInt1 (mCons (mBin fIx (mName 6) (mC (.int 2))) mNil)) (mBin fAdd (mName 3) (mC (.int 2)))) (mC (.int 1))) mNil)))
noncomputable def law_s4b_s3a_s1 : Mo Fl := (mIf (mB (mBin fEqD (mBin fIx (mName 6) (mC (.int 1))) (mC (.int 7)))) (mAsg 10 (mBin fAdd (mName 10) (mBin fIx (mName 6) (mC (.int 3))))) mNext)
noncomputable def law_s4b_s3a_s2 : Mo Fl := (mIf (mB (mBin fEqD (mBin fIx (mName 6) (mC (.int 2))) (mC (.int 7)))) (mAsg 11 (mBin fSub (mUn fNeg (mC (.int 1))) (mBin fIx (mName 6) (mC (.int 3))))) mNext)
noncomputable def law_s4b_s3a_t2 : Mo Fl := law_s4b_s3a_s2
noncomputable def law_s4b_s3a_t1 : Mo Fl := mSeq law_s4b_s3a_s1 law_s4b_s3a_t2
noncomputable def law_s4b_s3a_t0 : Mo Fl := mSeq law_s4b_s3a_s0 law_s4b_s3a_t1
noncomputable def law_s4b_s3 : Mo Fl := mIf (mB (mBin fEqD (mBin fIx (mName 6) (mC (.int 0))) (mC (.int 1)))) law_s4b_s3a_t0 mNext
noncomputable def law_s4b_s4 : Mo Fl := (mAsg 7 (mCall 3 m__law_due (mCons (mName 1) (mCons (mName 10) (mCons (mName 11) mNil)))))
noncomputable def law_s4b_s5 : Mo Fl := (mIf (mNot (mB (mCall 2 m__law_same_rows (mCons (mListF 3 m_chains (mCons (mName 2) (mCons (mName 10) (mCons (mName 11) mNil)))) (mCons (mName 7) mNil))))) (mRet (mC (.bl false))) mNext)
noncomputable def law_s4b_s6 : Mo Fl := (mAsg 8 (mLst mNil))
noncomputable def law_s4b_s7 : Mo Fl := (mForZ 3 z_chains (mCons (mName 2) (mCons (mName 10) (mCons (mName 11) mNil))) (tgN 9) (mSeq (mDrop (mMut .lst fAppend (mName 8) (mCons (mName 9) mNil))) (mForZ 3 z_chains (mCons (mName 2) (mCons (mName 11) (mCons (mName 10) mNil))) (tgN 12) (mSeq (mIf (mOr (mB (mBin fLt (mCB fLen (mCons (mName 12) mNil)) (mC (.int 3)))) (mB (mBin fNeD (mBin fIx (mName 12) (mC (.int 0))) (mName 11)))) (mRet (mC (.bl false))) mNext) mBreak))))
noncomputable def law_s4b_s8 : Mo Fl := (mIf (mNot (mB (mCall 2 m__law_same_rows (mCons (mName 8) (mCons (mName 7) mNil))))) (mRet (mC (.bl false))) mNext)
noncomputable def law_s4b_t8 : Mo Fl := law_s4b_s8
noncomputable def law_s4b_t7 : Mo Fl := mSeq law_s4b_s7 law_s4b_t8
noncomputable def law_s4b_t6 : Mo Fl := mSeq law_s4b_s6 law_s4b_t7
noncomputable def law_s4b_t5 : Mo Fl := mSeq law_s4b_s5 law_s4b_t6
noncomputable def law_s4b_t4 : Mo Fl := mSeq law_s4b_s4 law_s4b_t5
noncomputable def law_s4b_t3 : Mo Fl := mSeq law_s4b_s3 law_s4b_t4
noncomputable def law_s4b_t2 : Mo Fl := mSeq law_s4b_s2 law_s4b_t3
noncomputable def law_s4b_t1 : Mo Fl := mSeq law_s4b_s1 law_s4b_t2
noncomputable def law_s4b_t0 : Mo Fl := mSeq law_s4b_s0 law_s4b_t1
noncomputable def law_s4 : Mo Fl := mFor (mRng2 (mCons (mC (.int 1)) (mCons (mC (.int 4)) mNil))) (tgN 5) law_s4b_t0
noncomputable def law_s5 : Mo Fl := (mRet (mCall 2 m__law_same_rows (mCons (mListO "Layout" "rows" m_Layout___len__ (mCons (mName 2) mNil)) (mCons (mLc [13] (mIter (mName 1)) (tgN 13) mYes (mCB fTuple (mCons (mName 13) mNil))) mNil))))
noncomputable def law_t5 : Mo Fl := law_s5
noncomputable def law_t4 : Mo Fl := mSeq law_s4 law_t5
noncomputable def law_t3 : Mo Fl := mSeq law_s3 law_t4
noncomputable def law_t2 : Mo Fl := mSeq law_s2 law_t3
noncomputable def law_t1 : Mo Fl := mSeq law_s1 law_t2
noncomputable def law_t0 : Mo Fl := mSeq law_s0 law_t1
theorem law_cut : b_law = law_t0 := rfl
noncomputable def m_law : Fn := fnM 14 b_law
theorem ok_law (T : Tx P K mg) : FnM P w K mg base 9 T.f_law T.fd_law ["_law_script"] m_law := have sc := sc_law; defM2 T.F_law sc rfl fun cdv A outer s H E hr hu tk pa => pess_cons (pes_set 1 sc.nd (pee_callN rfl (ok__law_rows T) (hr.mono (by decide)) T.g__law_rows T.F__law_rows.kp T.b__law_rows tk (pea_cons (pee_callN rfl (ok__law_cell T) (hr.mono (by decide)) T.g__law_cell T.F__law_cell.kp T.b__law_cell tk (pea_cons (pee_name 0) (pea_cons pee_int pea_nil))) (pea_cons pee_int (pea_cons pee_int pea_nil))))) (pess_cons (pes_set 2 sc.nd (pee_makeN rfl T.c_Layout ⟨T.mk_Layout, T.mt_Layout___init__.at_, T.mt_Layout___init__.fn, T.kp_Layout⟩ (ok_Layout___init__ T) (hr.mono (by decide)) T.b_Layout___init__ .nil Dfl.nil tk (pea_cons (pee_lc sc.nd (own := [("_law_row_here", 13)]) (l := [13]) (pei_seq (pee_name 1)) ⟨⟨rfl, by first | decide +kernel | (dsimp only [cxOf, envOfC, compEnvC, relabel]; decide +kernel) | exact of_decide_eq_true (by kernel_rfl), by first | decide +kernel | (dsimp only [cxOf, envOfC, compEnvC, relabel]; decide +kernel) | exact of_decide_eq_true (by kernel_rfl), by first | decide +kernel | (dsimp only [cxOf, envOfC, compEnvC, relabel]; decide +kernel) | exact of_decide_eq_true (by kernel_rfl), by first | decide +kernel | (dsimp only [cxOf, envOfC, compEnvC, relabel]; decide +kernel) | exact of_decide_eq_true (by kernel_rfl)⟩, (tgN_ne _), by decide, fun _ _ _ _ _ => by exact peg_name 13 sc.nd, fun _ _ _ _ _ => by exact pets_nil, fun _ _ _ _ _ => by exact pee_ct cm_list T.n_list (pea_cons (pee_name 13) pea_nil)⟩) pea_nil))) (pess_cons (pes_set 3 sc.nd (pee_cb cm_len T.n_len (pea_cons (pee_name 1) pea_nil))) (pess_cons (pes_set 4 sc.nd (pee_callN rfl (ok__law_lines T) (hr.mono (by decide)) T.g__law_lines T.F__law_lines.kp T.b__law_lines tk (pea_cons (pee_name 1) pea_nil))) (pess_cons (pes_for pa (pei_rng2 T.n_range (pea_cons pee_int (pea_cons pee_int pea_nil))) (peg_name 5 sc.nd) (pess_cons (pes_set 6 sc.nd (pee_callN rfl (ok__law_numbers T) (hr.mono (by decide)) T.g__law_numbers T.F__law_numbers.kp T.b__law_numbers tk (pea_cons (pee_callN rfl (ok__law_cell T) (hr.mono (by decide)) T.g__law_cell T.F__law_cell.kp T.b__law_cell tk (pea_cons (pee_name 0) (pea_cons (pee_name 5) pea_nil))) (pea_cons (pee_op om_add pee_int (pee_name 5)) (pea_cons (pee_lst (pea_cons pee_int (pea_cons pee_int (pea_cons pee_int (pea_cons (pee_op om_pow pee_int pee_int) (pea_cons pee_int pea_nil)))))) pea_nil))))) (pess_cons (pes_par2 10 11 sc.nd (pea_cons (pee_op om_mod (pee_ct cm_int T.n_int (pea_cons (pee_ix (xm_ix (hu1 hu)) (pee_name 6) pee_int) pea_nil)) (pee_name 3)) (pea_cons (pee_op om_mod (pee_ct cm_int T.n_int (pea_cons (pee_ix (xm_ix (hu1 hu)) (pee_name 6) pee_int) pea_nil)) (pee_name 3)) pea_nil))) (pess_cons (pes_if ((pew_and (pet_cmp om_gt (pee_ix (xm_ix (hu1 hu)) (pee_name 6) pee_int) pee_int) (pew_and1 (pet_cmp (om_neD (hu64 hu)) (pee_name 4) (pee_lst pea_nil)))).pt) (pess_one (pes_asg (pee_ix (xm_ix (hu1 hu)) (pee_name 4) (pee_op om_mod (pee_ct cm_int T.n_int (pea_cons (pee_ix (xm_ix (hu1 hu)) (pee_name 6) pee_int) pea_nil)) (pee_cb cm_len T.n_len (pea_cons (pee_name 4) pea_nil)))) (peg_tup (pegs_cons (peg_name 10 sc.nd) (pegs_cons (peg_name 11 sc.nd) pegs_nil))))) pess_nil) (pess_cons (pes_if (pet_cmp (om_eqD (hu64 hu)) (pee_ix (xm_ix (hu1 hu)) (pee_name 6) pee_int) pee_int) (pess_cons (pes_par2 10 11 sc.nd (pea_cons (pee_op om_sub (pee_op om_mod (pee_ct cm_int T.n_int (pea_cons (pee_ix (xm_ix (hu1 hu)) (pee_name 6) pee_int) pea_nil)) (pee_op om_add (pee_name 3) pee_int)) pee_int) (pea_cons (pee_op om_sub (pee_op om_mod (pee_ct cm_int T.n_int (pea_cons (pee_ix (xm_ix (hu1 hu)) (pee_name 6) pee_int) pea_nil)) (pee_op om_add (pee_name 3) pee_int)) pee_int) pea_nil))) (pess_cons (pes_if (pet_cmp (om_eqD (hu64 hu)) (pee_ix (xm_ix (hu1 hu)) (pee_name 6) pee_int) pee_int) (pess_one (pes_set 10 sc.nd (pee_op om_add (pee_name 10) (pee_ix (xm_ix (hu1 hu)) (pee_name 6) pee_int)))) pess_nil) (pess_one (pes_if (pet_cmp (om_eqD (hu64 hu)) (pee_ix (xm_ix (hu1 hu)) (pee_name 6) pee_int) pee_int) (pess_one (pes_set 11 sc.nd (pee_op om_sub (pee_un um_neg pee_int) (pee_ix (xm_ix (hu1 hu)) (pee_name 6) pee_int)))) pess_nil)))) pess_nil) (pess_cons (pes_set 7 sc.nd (pee_callN rfl (ok__law_due T) (hr.mono (by decide)) T.g__law_due T.F__law_due.kp T.b__law_due tk (pea_cons (pee_name 1) (pea_cons (pee_name 10) (pea_cons (pee_name 11) pea_nil))))) (pess_cons (pes_if (pet_not (pet_val (pee_callN rfl (ok__law_same_rows T) (hr.mono (by decide)) T.g__law_same_rows T.F__law_same_rows.kp T.b__law_same_rows tk (pea_cons (pee_listF rfl (ok_chains T) (hr.mono (by decide)) T.g_chains T.F_chains.kp T.b_chains T.n_list (pea_cons (pee_name 2) (pea_cons (pee_name 10) (pea_cons (pee_name 11) pea_nil)))) (pea_cons (pee_name 7) pea_nil))))) (pess_one (pes_ret pee_bl)) pess_nil) (pess_cons (pes_set 8 sc.nd (pee_lst pea_nil)) (pess_cons (pes_forZ rfl gless_cx pa (okz_chains T) (hr.mono (by decide)) T.g_chains T.F_chains.kp T.b_chains (pea_cons (pee_name 2) (pea_cons (pee_name 10) (pea_cons (pee_name 11) pea_nil))) (peg_name 9 sc.nd) (pess_cons (pes_expr (pee_mut (k := .lst) PySem.F.plainAttrs_list PySem.F.slot_list_append PySem.F.type_list_append mt_append mu_append (pee_name 8) (pea_cons (pee_name 9) pea_nil))) (pess_one (pes_forZ rfl gless_cx pa (okz_chains T) (hr.mono (by decide)) T.g_chains T.F_chains.kp T.b_chains (pea_cons (pee_name 2) (pea_cons (pee_name 11) (pea_cons (pee_name 10) pea_nil))) (peg_name 12 sc.nd) (pess_cons (pes_if ((pew_or (pet_cmp om_lt (pee_cb cm_len T.n_len (pea_cons (pee_name 12) pea_nil)) pee_int) (pew_or1 (pet_cmp (om_neD (hu64 hu)) (pee_ix (xm_ix (hu1 hu)) (pee_name 12) pee_int) (pee_name 11)))).pt) (pess_one (pes_ret pee_bl)) pess_nil) (pess_one pes_break)))))) (pess_one (pes_if (pet_not (pet_val (pee_callN rfl (ok__law_same_rows T) (hr.mono (by decide)) T.g__law_same_rows T.F__law_same_rows.kp T.b__law_same_rows tk (pea_cons (pee_name 8) (pea_cons (pee_name 7) pea_nil))))) (pess_one (pes_ret pee_bl)) pess_nil))))))))))) (pess_one (pes_ret (pee_callN rfl (ok__law_same_rows T) (hr.mono (by decide)) T.g__law_same_rows T.F__law_same_rows.kp T.b__law_same_rows tk (pea_cons (pee_listO (n := 1) T.c_Layout ⟨T.mt_Layout___iter__.at_, T.mt_Layout___iter__.fn, T.mt_Layout___len__.at_, T.mt_Layout___len__.fn⟩ ((ok_Layout___iter__ T).mono (by decide)) T.b_Layout___iter__ ((ok_Layout___len__ T).mono (by decide)) rfl T.b_Layout___len__ (hr.mono (by decide)) T.n_list (pea_cons (pee_name 2) pea_nil)) (pea_cons (pee_lc sc.nd (own := [("_law_row_here", 13)]) (l := [13]) (pei_seq (pee_name 1)) ⟨⟨rfl, by first | decide +kernel | (dsimp only [cxOf, envOfC, compEnvC, relabel]; decide +kernel) | exact of_decide_eq_true (by kernel_rfl), by first | decide +kernel | (dsimp only [cxOf, envOfC, compEnvC, relabel]; decide +kernel) | exact of_decide_eq_true (by kernel_rfl), by first | decide +kernel | (dsimp only [cxOf, envOfC, compEnvC, relabel]; decide +kernel) | exact of_decide_eq_true (by kernel_rfl), by first | decide +kernel | (dsimp only [cxOf, envOfC, compEnvC, relabel]; decide +kernel) | exact of_decide_eq_true (by kernel_rfl)⟩, (tgN_ne _), by decide, fun _ _ _ _ _ => by exact peg_name 13 sc.nd, fun _ _ _ _ _ => by exact pets_nil, fun _ _ _ _ _ => by exact pee_ct cm_tuple T.n_tuple (pea_cons (pee_name 13) pea_nil)⟩) pea_nil)))))))))
end
end Z
set_option linter.all false
set_option maxRecDepth 100000
namespace Z
open PySem PySem.Spec PyProof.Rows L2
theorem x_cell (ns : List Int) (k : Nat) (G : List Cell) : m__law_cell [.frl (ns.map W.int), .int k] G = some (.ok (.val (.int (ns.getD k 0))), G) := by
  unfold m__law_cell
  rw [fnM_e]
  by_cases h : k < ns.length
  · simp [b__law_cell, h, atI_mapI]
  · simp [b__law_cell, h]
theorem x_is_int (k : Int) (G : List Cell) : m__law_is_int [.int k] G = some (.ok (.val (.bl true)), G) := by
  unfold m__law_is_int
  rw [fnM_e]
  simp [b__law_is_int, tyOfW, ti_int, ti_bool, tabAt]
theorem x_numbers (c salt : Int) (ls : List Int) (hl : ∀ l ∈ ls, 0 < l ∧ l.natAbs.log2 < 9000) (hn : ls.length ≤ 1000) (G : List Cell) :
    ∃ xs : List Int, m__law_numbers [.int c, .int salt, .lst (ls.map W.int)] G = some (.ok (.own (.lst (xs.map W.int))), G) ∧ xs.length = ls.length ∧ ∀ (i : Nat) (x l : Int), xs[i]? = some x → ls[i]? = some l → 0 ≤ x ∧ x < l := by
  unfold m__law_numbers
  rw [fnM_e]
  simp [b__law_numbers, sz]
  generalize hF : forL _ _ _ _ = F
  obtain ⟨s', rfl, xs, rest, v, rfl, h1, h2⟩ := forL_at hF (fun i s => ∃ (xs : List Int) (rest : Int) (v : SV), s = ⟨[.val (.int c), .val (.int salt), .val (.lst (ls.map W.int)), .val (.int rest), .own (.lst (xs.map W.int)), v], G⟩ ∧ xs.length = i ∧
    ∀ (i : Nat) (x l : Int), xs[i]? = some x → ls[i]? = some l → 0 ≤ x ∧ x < l) ⟨[], c, .non, rfl, rfl, fun i x l h => by simp at h⟩ (by
      rintro i hi s ⟨xs, rest, v, rfl, h1, h2⟩
      simp at hi
      have hm : ls[i] ∈ ls := List.getElem_mem hi
      obtain ⟨l1, l2⟩ := hl _ hm
      have ext : ∀ y : Int, 0 ≤ y → y < ls[i] → ∀ (j : Nat) (x l : Int), (xs ++ [y])[j]? = some x → ls[j]? = some l → 0 ≤ x ∧ x < l := fun y y0 y1 j x l e1 e2 => by
        rcases Nat.lt_or_ge j xs.length with q | q
        · rw [List.getElem?_append_left q] at e1
          exact h2 j x l e1 e2
        · rw [List.getElem?_append_right q] at e1
          have : j = i := by
            have := get_lt e1
            simp at this
            omega
          subst this
          rw [h1] at e1
          simp at e1
          rw [List.getElem?_eq_getElem hi] at e2
          cases e2
          subst e1
          exact ⟨y0, y1⟩
      have s1 : xs.length < sz := by show _ < 16777216; omega
      by_cases hc : c < 1000000000000000000
      · have l7 : Nat.log2 7 < 9000 := by decide
        simp [fAppend, s1, CPow, CMul, CDivW, hc, l1, l7]
        exact ⟨xs ++ [(rest * 75 + 74 + salt) % 65537 / 7 % ls[i]], by simp, by simp [h1], ext _ (Int.emod_nonneg _ (by omega)) (Int.emod_lt_of_pos _ l1)⟩
      · simp [fAppend, s1, CPow, CMul, CDivW, hc, l1, l2]
        exact ⟨xs ++ [rest % ls[i]], by simp, by simp [h1], ext _ (Int.emod_nonneg _ (by omega)) (Int.emod_lt_of_pos _ l1)⟩)
  simp
  exact ⟨xs, rfl, by simpa using h1, h2⟩
def tupI (xs : List Int) : W := .tup (xs.map W.int)
def lstI (xs : List Int) : W := .lst (xs.map W.int)
@[simp] theorem ty_int {i : Int} : tyOfW (.int i) = some (.ty "int") := rfl
@[simp] theorem ty_bl {i : Bool} : tyOfW (.bl i) = some (.ty "bool") := rfl
@[simp] theorem ty_lst {i : List W} : tyOfW (.lst i) = some (.ty "list") := rfl
@[simp] theorem ty_frl {i : List W} : tyOfW (.frl i) = some (.ty "list") := rfl
@[simp] theorem ty_tup {i : List W} : tyOfW (.tup i) = some (.ty "tuple") := rfl
@[simp] theorem fFld_o {nms : List Str} {f nm : Str} {fs : List (Str × W)} : fFld nms f (.obj nm fs) = if nm ∈ nms then (fs.lookup f).map .imm else none := rfl
theorem emb_row : Emb tupI 1 := emb_tup emb_int
section
variable {r : List SV} {G : List Cell} {s : S} {rs : List (List Int)} {ms : List Int} {xs : List W}
@[simp] theorem look_tupI {k : List Int} : look (.val (tupI k)) ⟨r, G⟩ = some (.ok (tupI k), ⟨r, G⟩) := rfl
@[simp] theorem look_lstI {k : List Int} : look (.val (lstI k)) ⟨r, G⟩ = some (.ok (lstI k), ⟨r, G⟩) := rfl
@[simp] theorem deref_tupI {k : List Int} : derefW s (tupI k) = some (tupI k) := rfl
@[simp] theorem deref_lstI {k : List Int} : derefW s (lstI k) = some (lstI k) := rfl
@[simp] theorem walk_tupI {k : List Int} : walkOf s (tupI k) = some ⟨k.map W.int, none⟩ := rfl
@[simp] theorem walk_lstI {k : List Int} : walkOf s (lstI k) = some ⟨k.map W.int, none⟩ := rfl
@[simp] theorem ty_tupI {k : List Int} : tyOfW (tupI k) = some (.ty "tuple") := rfl
@[simp] theorem ty_lstI {k : List Int} : tyOfW (lstI k) = some (.ty "list") := rfl
end
theorem fAll_trues {γ : Type} (xs : List γ) : fAll [.lst (xs.map fun _ => W.bl true)] = some (.imm (.bl true)) := by
  have : blsOf (xs.map fun _ => W.bl true) = some (xs.map fun _ => true) := by
    induction xs with
    | nil => rfl
    | cons x xs ih => simp [blsOf, ih]
  unfold fAll
  simp [this]
theorem fNeD_same (a : Int) : fNeD (.int a) (.int a) = some (.imm (.bl false)) := by rw [fNeD_emb emb_int (by decide)]; simp
theorem x_isints {a b c : SV} (xs : List Int) (h : xs.length ≤ sz) (G : List Cell) : lcL [3] (tgN 3) mYes (mCall 1 m__law_is_int (mCons (mName 3) mNil)) ⟨xs.map W.int, none⟩ (xs.map W.int) [] ⟨[a, b, c, .non], G⟩ =
    some (.ok (.own (.lst (xs.map fun _ => W.bl true))), ⟨[a, b, c, .non], G⟩) := by
  rw [lc_all (by exact trivial) (fun _ => W.bl true)]
  · simp
  · intro k hk
    exact ⟨⟨[a, b, c, .val (.int k)], G⟩, by simp, ⟨[a, b, c, .val (.int k)], G⟩, by simp [x_is_int], by simp⟩
  · simpa using h
theorem x_same (rs : List (List Int)) (hl : rs.length ≤ 1000) (hr : ∀ xs ∈ rs, xs.length ≤ sz) (G : List Cell) : m__law_same_rows [.lst (rs.map tupI), .lst (rs.map tupI)] G = some (.ok (.val (.bl true)), G) := by
  unfold m__law_same_rows
  rw [fnM_e]
  have hb : Rk (rs.length : Int) := rk_nat (by omega)
  have t1 : tabAt ti_list (.ty "list") = some true := by decide +kernel
  have t2 : tabAt ti_tuple (.ty "tuple") = some true := by decide +kernel
  simp [b__law_same_rows, t1, fNeD_same, hb]
  generalize hF : forL _ _ _ _ = F
  obtain ⟨s', rfl, v2, rfl⟩ := forL_at hF (fun i s => ∃ v2, s = ⟨[.val (.lst (rs.map tupI)), .val (.lst (rs.map tupI)), v2, .non], G⟩) ⟨_, rfl⟩ (by
    rintro i hi s ⟨v2, rfl⟩
    simp [rngW] at hi
    have hi' : i < rs.length := by omega
    have e : atI (rs.map tupI) (i : Int) = some (tupI rs[i]) := atI_nat (by simp [hi'])
    have hne : fNeD (tupI rs[i]) (tupI rs[i]) = some (.imm (.bl false)) := by rw [fNeD_emb emb_row (by decide)]; simp
    have ha := fAll_trues rs[i]
    have hq := hr rs[i] (List.getElem_mem hi')
    simp [rngW, e, t2, hne, x_isints _ hq, ha])
  simp
@[simp] theorem intsOf_ints : ∀ xs : List Int, intsOf (xs.map W.int) = some xs
  | [] => rfl
  | x :: xs => by simp [intsOf, intsOf_ints xs]
def canon (xs : List Int) : List Int := ((List.range 8).filter fun (k : Nat) => decide ((k : Int) ∈ xs)).map fun (k : Nat) => (k : Int)
def bad (k : Int) : Bool := !(decide (0 ≤ k) && decide (k < 8))
theorem canon_e (xs : List Int) : canon xs = ((List.range 8).filter fun (k : Nat) => decide ((0 : Int) + (k : Int) ∈ xs)).map fun (k : Nat) => (0 : Int) + (k : Int) := by
  unfold canon
  simp only [Int.zero_add]
def mask (xs : List Int) : Int := (xs.map fun k => (2 : Int) ^ k.toNat).sum
theorem canon_mem {xs : List Int} {k : Int} (h : k ∈ canon xs) : 0 ≤ k ∧ k < 8 ∧ k ∈ xs := by
  unfold canon at h
  simp at h
  obtain ⟨j, ⟨h1, h2⟩, rfl⟩ := h
  exact ⟨by omega, by omega, h2⟩
theorem canon_len (xs : List Int) : (canon xs).length ≤ 8 := by
  unfold canon
  rw [List.length_map]
  exact Nat.le_trans (List.length_filter_le _ _) (by simp)
theorem canon_idem (xs : List Int) : canon (canon xs) = canon xs := by
  have : ∀ k : Int, k ∈ canon (canon xs) ↔ k ∈ canon xs := by
    intro k
    constructor
    · intro h; exact (canon_mem h).2.2
    · intro h
      obtain ⟨a, b, _⟩ := canon_mem h
      unfold canon
      simp
      exact ⟨k.toNat, ⟨by omega, by rw [Int.toNat_of_nonneg a]; simpa [canon] using h⟩, Int.toNat_of_nonneg a⟩
  unfold canon
  congr 1
  apply List.filter_congr
  intro k hk
  have hk8 := List.mem_range.mp hk
  by_cases h : (k : Int) ∈ xs
  · have : (k : Int) ∈ canon xs := by
      unfold canon; simp; exact ⟨k, ⟨hk8, h⟩, rfl⟩
    simpa [h, canon] using this
  · have : ¬ (k : Int) ∈ canon xs := fun z => h (canon_mem z).2.2
    simpa [h, canon] using this
end Z
set_option linter.all false
set_option maxRecDepth 100000
namespace Z
open PySem PySem.Spec PyProof.Rows L2
def lay (rs : List (List Int)) : W := .obj "Layout" [("rows", .lst (rs.map tupI)), ("masks", .lst (rs.map fun xs => W.int (mask xs)))]
@[simp] theorem lk_rows {a b : W} : List.lookup ("rows" : Str) [("rows", a), ("masks", b)] = some a := rfl
@[simp] theorem lk_masks {a b : W} : List.lookup ("masks" : Str) [("rows", a), ("masks", b)] = some b := rfl
section
variable {r : List SV} {G : List Cell} {s : S} {rs : List (List Int)} {xs : List W}
@[simp] theorem look_lay : look (.val (lay rs)) ⟨r, G⟩ = some (.ok (lay rs), ⟨r, G⟩) := rfl
@[simp] theorem deref_lay : derefW s (lay rs) = some (lay rs) := rfl
@[simp] theorem fFld_lay : fFld fn_rows "rows" (lay rs) = some (.imm (.lst (rs.map tupI))) := by simp [lay, fn_rows]
@[simp] theorem fFld_layM : fFld fn_masks "masks" (lay rs) = some (.imm (.lst (rs.map fun xs => W.int (mask xs)))) := by simp [lay, fn_masks]
@[simp high] theorem chk_lay_check_copy : chk "Layout" "check_copy" (lay rs) ⟨r, G⟩ = some (.ok (), ⟨r, G⟩) := rfl
@[simp high] theorem chk_lay_is_line : chk "Layout" "is_line" (lay rs) ⟨r, G⟩ = some (.ok (), ⟨r, G⟩) := rfl
@[simp high] theorem chk_lay_lines : chk "Layout" "lines" (lay rs) ⟨r, G⟩ = some (.ok (), ⟨r, G⟩) := rfl
@[simp high] theorem chk_lay_shared : chk "Layout" "shared" (lay rs) ⟨r, G⟩ = some (.ok (), ⟨r, G⟩) := rfl
@[simp high] theorem chk_lay_keepers : chk "Layout" "keepers" (lay rs) ⟨r, G⟩ = some (.ok (), ⟨r, G⟩) := rfl
@[simp high] theorem chk_lay_with_key : chk "Layout" "with_key" (lay rs) ⟨r, G⟩ = some (.ok (), ⟨r, G⟩) := rfl
@[simp high] theorem chk_lay_without_key : chk "Layout" "without_key" (lay rs) ⟨r, G⟩ = some (.ok (), ⟨r, G⟩) := rfl
@[simp high] theorem chk1_lay : chk1 "Layout" (lay rs :: xs) ⟨r, G⟩ = some (.ok (), ⟨r, G⟩) := by simp [lay]
@[simp] theorem ty_lay : tyOfW (lay rs) = some (.own "Layout") := rfl
@[simp] theorem fldL_lay : fldS "Layout" "rows" rdL (lay rs) = if rs.length ≤ sz then some (rs.map tupI) else none := by simp [fldS, rdL, lay]
end
theorem x_len (rs : List (List Int)) (G : List Cell) : m_Layout___len__ [lay rs] G = some (.ok (.val (.int rs.length)), G) := by
  unfold m_Layout___len__
  rw [fnM_e]
  simp [b_Layout___len__]
def RowW (G : List Cell) (w : W) (xs : List Int) : Prop := w = tupI xs ∨ w = lstI xs ∨ ∃ n, w = .ref n ∧ G[n]? = some (.lst (xs.map W.int))
def RowsR (G : List Cell) (R : W) (ws : List W) : Prop := R = .lst ws ∨ R = .tup ws ∨ ∃ m, R = .ref m ∧ G[m]? = some (.lst ws)
theorem RowW.use {G : List Cell} {w : W} {xs : List Int} (h : RowW G w xs) : ∃ o w', (∀ r, walkOf ⟨r, G⟩ w = some ⟨xs.map W.int, o⟩) ∧ (∀ r, Wk.ok ⟨xs.map W.int, o⟩ ⟨r, G⟩) ∧ (∀ r, look (.val w) ⟨r, G⟩ = some (.ok w', ⟨r, G⟩)) ∧ ∀ k neg, fIn neg (.int k) w' = some (.imm (.bl (decide (k ∈ xs) != neg))) := by
  rcases h with rfl | rfl | ⟨n, rfl, h⟩
  · exact ⟨none, tupI xs, fun _ => rfl, fun _ => trivial, fun _ => rfl, fun k neg => fIn_tupI neg k xs⟩
  · exact ⟨none, lstI xs, fun _ => rfl, fun _ => trivial, fun _ => rfl, fun k neg => fIn_lI neg k xs⟩
  · exact ⟨some n, .lst (xs.map W.int), fun _ => by simp [h], fun _ => h, fun _ => by simp [h], fun k neg => fIn_lI neg k xs⟩
theorem RowsR.use {G : List Cell} {R : W} {ws : List W} (h : RowsR G R ws) : ∃ o R', (∀ r, walkOf ⟨r, G⟩ R = some ⟨ws, o⟩) ∧ (∀ r, Wk.ok ⟨ws, o⟩ ⟨r, G⟩) ∧ (∀ r, look (.val R) ⟨r, G⟩ = some (.ok R', ⟨r, G⟩)) ∧ fLen [R'] = some (.imm (.int ws.length)) := by
  rcases h with rfl | rfl | ⟨n, rfl, h⟩
  · exact ⟨none, _, fun _ => rfl, fun _ => trivial, fun _ => rfl, rfl⟩
  · exact ⟨none, _, fun _ => rfl, fun _ => trivial, fun _ => rfl, rfl⟩
  · exact ⟨some n, .lst ws, fun _ => by simp [h], fun _ => h, fun _ => by simp [h], rfl⟩
def fb (rss : List (List Int)) : Option Int := rss.flatten.find? bad
theorem fb_none {rss : List (List Int)} (h : ∀ x ∈ rss.flatten, bad x = false) : fb rss = none := by
  unfold fb
  rw [List.find?_eq_none]
  intro x hx; simp [h x hx]
theorem first_bad {rss : List (List Int)} {i : Nat} {xs : List Int} {j : Nat} {k : Int} (h1 : ∀ x ∈ (rss.take i).flatten, bad x = false) (h2 : rss[i]? = some xs) (h3 : ∀ x ∈ xs.take j, bad x = false) (h4 : xs[j]? = some k) (h5 : bad k = true) : fb rss = some k := by
  have hi := get_lt h2
  have hj := get_lt h4
  have e1 : rss = rss.take i ++ xs :: rss.drop (i + 1) := by
    rw [List.getElem?_eq_getElem hi] at h2
    cases h2
    rw [← drop_get hi, List.take_append_drop]
  have e2 : xs = xs.take j ++ k :: xs.drop (j + 1) := by
    rw [List.getElem?_eq_getElem hj] at h4
    cases h4
    rw [← drop_get hj, List.take_append_drop]
  unfold fb
  rw [e1, List.flatten_append, List.flatten_cons, List.find?_append]
  have n1 : (rss.take i).flatten.find? bad = none := by
    rw [List.find?_eq_none]
    intro x hx; simp [h1 x hx]
  rw [n1, Option.none_or, List.find?_append]
  have n2 : xs.find? bad = some k := by
    rw [e2, List.find?_append]
    have : (xs.take j).find? bad = none := by
      rw [List.find?_eq_none]
      intro x hx; simp [h3 x hx]
    rw [this, Option.none_or, List.find?_cons, h5]
  rw [n2]; rfl
theorem fb_canon {rss : List (List Int)} (h : ∀ xs ∈ rss, ∀ k ∈ xs, 0 ≤ k ∧ k < 8) : fb rss = none := fb_none fun x hx => by
  obtain ⟨l, hl, hx⟩ := List.mem_flatten.mp hx
  obtain ⟨a, b⟩ := h l hl x hx
  simp [bad, a, b]
theorem mask_at {G : List Cell} {a b c : SV} (xs : List Int) : lcL [4] (tgN 4) mYes (mBin fShl (mC (.int 1)) (mName 4)) ⟨(canon xs).map W.int, none⟩ ((canon xs).map W.int) [] ⟨[a, b, c, .val (tupI (canon xs)), .non], G⟩ =
    some (.ok (.own (.lst ((canon xs).map fun k => W.int ((2 : Int) ^ k.toNat)))), ⟨[a, b, c, .val (tupI (canon xs)), .non], G⟩) := by
  rw [lc_all (by exact trivial) (fun k => W.int ((2 : Int) ^ k.toNat))]
  · simp
  · intro k hk
    obtain ⟨k0, k8, _⟩ := canon_mem hk
    have kn : k.natAbs < 64 := by omega
    refine ⟨⟨[a, b, c, .val (tupI (canon xs)), .val (.int k)], G⟩, by simp, ⟨[a, b, c, .val (tupI (canon xs)), .val (.int k)], G⟩, ?_, by simp⟩
    have cp : CPow 1 k := by unfold CPow; constructor <;> first | omega | decide
    simp [cp]
  · have := canon_len xs
    show _ ≤ 16777216
    simp; omega
theorem masks_at {G : List Cell} {a b v4 : SV} {rows : W} {F : Option (Except Ex RV × S)} (rss : List (List Int)) (hl : rss.length ≤ sz) (hF : lcL [3] (tgN 3) mYes (mCB fSum (mCons (mLc [4] (mIter (mName 3)) (tgN 4) mYes (mBin fShl (mC (.int 1)) (mName 4))) mNil)) ⟨rss.map fun xs => tupI (canon xs), none⟩ (rss.map fun xs => tupI (canon xs)) [] ⟨[a, b, .val rows, .non, v4], G⟩ = F) :
    ∃ v4, F = some (.ok (.own (.lst (rss.map fun xs => W.int (mask (canon xs))))), ⟨[a, b, .val rows, .non, v4], G⟩) := by
  obtain ⟨acc, s', rfl, ⟨rfl, v4, rfl⟩, _⟩ := lc_at hF (fun i acc s => acc = (List.take i (rss.map fun xs => W.int (mask (canon xs)))) ∧ ∃ v4, s = ⟨[a, b, .val rows, .non, v4], G⟩) (fun _ _ _ _ => by trivial) ⟨by simp, _, rfl⟩ (by simpa using hl) (by
    rintro i hi acc s ⟨rfl, v4, rfl⟩
    simp at hi
    refine ⟨true, ⟨[a, b, .val rows, .val (tupI (canon rss[i])), v4], G⟩, by simp, fun _ => ⟨.int (mask (canon rss[i])), ⟨[a, b, .val rows, .val (tupI (canon rss[i])), .non], G⟩, ?_, ?_⟩, fun h => by cases h⟩
    · have ht : walkOf ⟨[a, b, .val rows, .val (tupI (canon rss[i])), .non], G⟩ (tupI (canon rss[i])) = some ⟨(canon rss[i]).map W.int, none⟩ := rfl
      have e : ∀ xs : List Int, intsOf (xs.map fun k => W.int ((2 : Int) ^ k.toNat)) = some (xs.map fun k => (2 : Int) ^ k.toNat) := fun xs => by
        have := intsOf_ints (xs.map fun k => (2 : Int) ^ k.toNat)
        rw [List.map_map] at this
        exact this
      simp [mask_at]
      unfold fSum
      simp [e]
      rfl
    · refine ⟨?_, .non, by simp⟩
      rw [List.take_succ_eq_append_getElem (by simpa using hi)]
      simp)
  exact ⟨v4, by rw [List.take_of_length_le (by simp)]⟩
theorem x_init {G : List Cell} {n : Nat} {R : W} {ws : List W} {rss : List (List Int)} (hR : RowsR G R ws) (hn : G[n]? = some (.ins "Layout" [])) (h1 : 1 ≤ ws.length) (h6 : ws.length ≤ 6) (hl : rss.length = ws.length) (hw : ∀ (i : Nat) w xs, ws[i]? = some w → rss[i]? = some xs → RowW G w xs) :
    (∃ k, fb rss = some k ∧ m_Layout___init__ [.ref n, R] G = some (.error ⟨"BadKey", [("key", .int k)]⟩, G)) ∨
    (fb rss = none ∧ m_Layout___init__ [.ref n, R] G = some (.ok (.val .non), G.set n (.ins "Layout" [("rows", .lst (rss.map fun xs => tupI (canon xs))), ("masks", .lst (rss.map fun xs => W.int (mask (canon xs))))]))) := by
  obtain ⟨o, R', k1, k2, k3, k4⟩ := hR.use
  unfold m_Layout___init__
  rw [fnM_e]
  have h1' : (1 : Int) ≤ ws.length := by omega
  have h6' : (ws.length : Int) ≤ 6 := by omega
  simp [b_Layout___init__, k3, k4, h1', h6', k1]
  generalize hF : forL _ _ _ _ = F
  obtain ⟨r, s', rfl, hr⟩ := forL_x hF (fun i s => ∃ v3 v4, s = ⟨[.val (.ref n), .val R, .own (.lst (List.take i (rss.map fun xs => tupI (canon xs)))), v3, v4], G⟩ ∧ ∀ x ∈ (rss.take i).flatten, bad x = false)
    (fun r s' => (r = .ok .nx ∧ (∃ v3 v4, s' = ⟨[.val (.ref n), .val R, .own (.lst (rss.map fun xs => tupI (canon xs))), v3, v4], G⟩) ∧ ∀ x ∈ rss.flatten, bad x = false) ∨
      ∃ k, r = .error ⟨"BadKey", [("key", .int k)]⟩ ∧ s'.G = G ∧ fb rss = some k)
    (by rintro i s ⟨v3, v4, rfl, _⟩; exact k2 _) ⟨.non, .non, by simp [sz], by simp⟩
    (by
      rintro s ⟨v3, v4, rfl, hg⟩
      rw [← hl, List.take_length] at hg
      exact .inl ⟨rfl, ⟨v3, v4, by rw [← hl, List.take_of_length_le (by simp)]⟩, hg⟩) (by
      rintro i hi s ⟨v3, v4, rfl, hg⟩
      have hi2 : i < rss.length := by omega
      obtain ⟨o2, w', q1, q2, q3, q4⟩ := (hw i ws[i] rss[i] (by simp [hi]) (by simp [hi2])).use
      simp [q1]
      generalize hF2 : forL _ _ _ _ = F2
      obtain ⟨r2, s2, rfl, hr2⟩ := forL_x hF2 (fun j s => ∃ v4, s = ⟨[.val (.ref n), .val R, .own (.lst (List.take i (rss.map fun xs => tupI (canon xs)))), .val ws[i], v4], G⟩ ∧ ∀ x ∈ rss[i].take j, bad x = false)
        (fun r s' => (r = .ok .nx ∧ (∃ v4, s' = ⟨[.val (.ref n), .val R, .own (.lst (List.take i (rss.map fun xs => tupI (canon xs)))), .val ws[i], v4], G⟩) ∧ ∀ x ∈ rss[i], bad x = false) ∨
          ∃ k, r = .error ⟨"BadKey", [("key", .int k)]⟩ ∧ s'.G = G ∧ fb rss = some k)
        (by rintro j s ⟨v4, rfl, _⟩; exact q2 _) ⟨v4, rfl, by simp⟩
        (by
          rintro s ⟨v4, rfl, hg2⟩
          simp at hg2
          exact .inl ⟨rfl, ⟨v4, rfl⟩, hg2⟩) (by
          rintro j hj s ⟨v4, rfl, hg2⟩
          simp at hj
          by_cases hb : bad rss[i][j] = true
          · refine ⟨.error ⟨"BadKey", [("key", .int rss[i][j])]⟩, ⟨[.val (.ref n), .val R, .own (.lst (List.take i (rss.map fun xs => tupI (canon xs)))), .val ws[i], .val (.int rss[i][j])], G⟩, ?_, .inr ⟨_, rfl, rfl, first_bad hg (by simp [hi2]) hg2 (by simp [hj]) hb⟩⟩
            unfold bad at hb
            by_cases h0 : 0 ≤ rss[i][j]
            · have h8 : ¬ rss[i][j] < 8 := by simpa [h0] using hb
              simp [h0, h8]
            · simp [h0]
          · have hb' : bad rss[i][j] = false := by simpa using hb
            refine ⟨.ok .nx, ⟨[.val (.ref n), .val R, .own (.lst (List.take i (rss.map fun xs => tupI (canon xs)))), .val ws[i], .val (.int rss[i][j])], G⟩, ?_, _, rfl, ?_⟩
            · unfold bad at hb'
              simp at hb'
              simp [hb'.1, hb'.2]
            · intro x hx
              rw [List.take_succ_eq_append_getElem hj] at hx
              rcases List.mem_append.mp hx with hx | hx
              · exact hg2 x hx
              · simp at hx
                rw [hx]; exact hb')
      rcases hr2 with ⟨rfl, ⟨v4', rfl⟩, hg2⟩ | ⟨k, rfl, hG, hf⟩
      · have hc : lcL [4] (tgN 4) (mB (mBin (fIn false) (mName 4) (mName 3))) (mName 4) ⟨rngW 0 8, none⟩ (rngW 0 8) [] ⟨[.val (.ref n), .val R, .own (.lst (List.take i (rss.map fun xs => tupI (canon xs)))), .val ws[i], .non], G⟩ =
            some (.ok (.own (.lst ((canon rss[i]).map W.int))), ⟨[.val (.ref n), .val R, .own (.lst (List.take i (rss.map fun xs => tupI (canon xs)))), .val ws[i], .non], G⟩) := by
          rw [rng_map, lc_pure (by exact trivial) (fun (k : Nat) => decide ((0 : Int) + (k : Int) ∈ rss[i])) (fun (k : Nat) => W.int ((0 : Int) + (k : Int)))]
          · rw [canon_e]; simp
          · intro k _
            refine ⟨⟨[.val (.ref n), .val R, .own (.lst (List.take i (rss.map fun xs => tupI (canon xs)))), .val ws[i], .val (.int ((0 : Int) + (k : Int)))], G⟩, ?_, ?_, ?_⟩
            · simp [q3, q4]
            · intro _
              exact ⟨⟨[.val (.ref n), .val R, .own (.lst (List.take i (rss.map fun xs => tupI (canon xs)))), .val ws[i], .val (.int ((0 : Int) + (k : Int)))], G⟩, by simp, by simp⟩
            · intro _; simp
          · simp [sz]
        have hsz : min i rss.length < sz := by show _ < 16777216; omega
        simp [hc, fTuple, fAppend, hsz]
        refine ⟨_, _, ⟨rfl, rfl⟩, ?_⟩
        simp
        refine ⟨?_, ?_⟩
        · rw [List.take_succ_eq_append_getElem (by simpa using hi2)]
          simp [tupI]
        · intro x xs hx hxs
          rw [List.take_succ_eq_append_getElem hi2] at hx
          rcases List.mem_append.mp hx with hx | hx
          · exact hg x (List.mem_flatten.mpr ⟨xs, hx, hxs⟩)
          · simp at hx
            subst hx
            exact hg2 x hxs
      · exact ⟨_, _, rfl, .inr ⟨k, rfl, hG, hf⟩⟩)
  rcases hr with ⟨rfl, ⟨v3, v4, rfl⟩, hg⟩ | ⟨k, rfl, hG, hf⟩
  · refine .inr ⟨?_, ?_⟩
    · exact fb_none hg
    · have hlz : rss.length ≤ sz := by show _ ≤ 16777216; omega
      simp [hn, fn_rows, putFW]
      generalize hF3 : lcL _ _ _ _ _ _ _ _ = F3
      obtain ⟨v5, rfl⟩ := masks_at rss hlz hF3
      have hnl : n < G.length := get_lt hn
      have hne : ¬ (("rows" : Str) = "masks") := by decide
      simp [fn_masks, putFW, hnl, hne]
  · refine .inl ⟨k, hf, ?_⟩
    simp [hG]
theorem RowW.mono {G G' : List Cell} {w : W} {xs : List Int} (h : RowW G w xs) (hp : ∀ (n : Nat) c, G[n]? = some c → G'[n]? = some c) : RowW G' w xs := by
  rcases h with h | h | ⟨n, e, h⟩
  · exact .inl h
  · exact .inr (.inl h)
  · exact .inr (.inr ⟨n, e, hp _ _ h⟩)
theorem RowsR.mono {G G' : List Cell} {w : W} {xs : List W} (h : RowsR G w xs) (hp : ∀ (n : Nat) c, G[n]? = some c → G'[n]? = some c) : RowsR G' w xs := by
  rcases h with h | h | ⟨n, e, h⟩
  · exact .inl h
  · exact .inr (.inl h)
  · exact .inr (.inr ⟨n, e, hp _ _ h⟩)
theorem app_pre {G E : List Cell} (n : Nat) (c : Cell) (h : G[n]? = some c) : (G ++ E)[n]? = some c := by
  rw [List.getElem?_append_left (get_lt h)]; exact h
@[simp] theorem noRefs_ints : ∀ xs : List Int, noRefs (xs.map W.int) = true
  | [] => rfl
  | x :: xs => by simp [noRefs, noRef, noRefs_ints xs]
@[simp] theorem noRefs_tups : ∀ xs : List (List Int), noRefs (xs.map tupI) = true
  | [] => rfl
  | x :: xs => by simp [noRefs, noRef, tupI, noRefs_tups xs]
theorem noRefs_masks : ∀ rs : List (List Int), noRefs (rs.map fun xs => W.int (mask xs)) = true
  | [] => rfl
  | x :: xs => by simp [noRefs, noRef, noRefs_masks xs]
theorem x_make {r : List SV} {G : List Cell} {R : W} {ws : List W} {rss : List (List Int)} {rs : List (List Int)} (hrs : rss.map canon = rs) (hR : RowsR G R ws) (h1 : 1 ≤ ws.length) (h6 : ws.length ≤ 6) (hl : rss.length = ws.length) (hw : ∀ (i : Nat) w xs, ws[i]? = some w → rss[i]? = some xs → RowW G w xs) :
    (∃ k, fb rss = some k ∧ makeG "Layout" m_Layout___init__ [R] ⟨r, G⟩ = some (.error ⟨"BadKey", [("key", .int k)]⟩, ⟨r, G ⟩)) ∨
    (fb rss = none ∧ makeG "Layout" m_Layout___init__ [R] ⟨r, G⟩ = some (.ok (.own (.ins "Layout" [("rows", .lst (rs.map tupI)), ("masks", .lst (rs.map fun xs => W.int (mask xs)))])), ⟨r, G⟩)) := by
  rcases x_init (G := G ++ [.ins "Layout" []]) (n := G.length) (hR.mono app_pre) (by simp) h1 h6 hl (fun i w xs a b => (hw i w xs a b).mono app_pre) with ⟨k, hk, e⟩ | ⟨hk, e⟩
  · refine .inl ⟨k, hk, ?_⟩
    unfold makeG
    simp only []
    rw [e]
    simp [noRefF, noRef]
  · refine .inr ⟨hk, ?_⟩
    unfold makeG
    simp only []
    rw [e]
    have e1 : (List.map (fun xs => tupI (canon xs)) rss) = rs.map tupI := by rw [← hrs, List.map_map]; rfl
    have e2 : (List.map (fun xs => W.int (mask (canon xs))) rss) = rs.map fun xs => W.int (mask xs) := by rw [← hrs, List.map_map]; rfl
    rw [e1, e2]
    have n1 := noRefs_tups rs
    have n2 := noRefs_masks rs
    simp [Cell.noRef, noRefF, noRef, n1, n2]
theorem x_makeOk {r : List SV} {G : List Cell} {R : W} {ws : List W} {rss : List (List Int)} {rs : List (List Int)} (hrs : rss.map canon = rs) (hR : RowsR G R ws) (h1 : 1 ≤ ws.length) (h6 : ws.length ≤ 6) (hl : rss.length = ws.length) (hw : ∀ (i : Nat) w xs, ws[i]? = some w → rss[i]? = some xs → RowW G w xs) (hk : ∀ xs ∈ rss, ∀ k ∈ xs, 0 ≤ k ∧ k < 8) :
    makeG "Layout" m_Layout___init__ [R] ⟨r, G⟩ = some (.ok (.own (.ins "Layout" [("rows", .lst (rs.map tupI)), ("masks", .lst (rs.map fun xs => W.int (mask xs)))])), ⟨r, G⟩) := by
  rcases x_make (r := r) hrs hR h1 h6 hl hw with ⟨k, h, _⟩ | ⟨_, h⟩
  · rw [fb_canon hk] at h; cases h
  · exact h
theorem x_makeL {r : List SV} {G : List Cell} {rss rs : List (List Int)} (hrs : rss.map canon = rs) (h1 : 1 ≤ rss.length) (h6 : rss.length ≤ 6) (hk : ∀ xs ∈ rss, ∀ k ∈ xs, 0 ≤ k ∧ k < 8) :
    makeG "Layout" m_Layout___init__ [.lst (rss.map lstI)] ⟨r, G⟩ = some (.ok (.own (.ins "Layout" [("rows", .lst (rs.map tupI)), ("masks", .lst (rs.map fun xs => W.int (mask xs)))])), ⟨r, G⟩) :=
  x_makeOk (ws := rss.map lstI) hrs (.inl rfl) (by simpa using h1) (by simpa using h6) (by simp) (fun i w xs a b => by
    rw [List.getElem?_map, b] at a
    cases a
    exact .inr (.inl rfl)) hk
end Z
set_option linter.all false
set_option maxRecDepth 100000
namespace Z
open PySem PySem.Spec PyProof.Rows L2
theorem fAdd_ll {a b : List W} (h : a.length + b.length ≤ sz) : fAdd (.lst a) (.lst b) = some (.newl (a ++ b)) := by
  unfold fAdd orf
  rw [show fI (fun i j => i + j) (.lst a) (.lst b) = none from rfl]
  simp only []
  rw [show fAddS (.lst a) (.lst b) = none from rfl]
  simp only []
  rw [show fAddL (.lst a) (.lst b) = some (.newl (a ++ b)) from by unfold fAddL; simp [h]]
theorem canon_filter {n : Nat} (hn : n ≤ 8) (p : Nat → Bool) : canon (((List.range n).filter p).map fun (k : Nat) => (k : Int)) = ((List.range n).filter p).map fun (k : Nat) => (k : Int) := by
  have key : ∀ k : Nat, decide ((k : Int) ∈ ((List.range n).filter p).map fun (k : Nat) => (k : Int)) = (decide (k < n) && p k) := by
    intro k
    rw [Bool.eq_iff_iff]
    simp only [decide_eq_true_eq, List.mem_map, List.mem_filter, List.mem_range, Bool.and_eq_true]
    constructor
    · rintro ⟨j, hj, e⟩
      have : j = k := by omega
      subst this; exact hj
    · intro h; exact ⟨k, h, rfl⟩
  obtain ⟨m, hm⟩ : ∃ m, 8 = n + m := ⟨8 - n, by omega⟩
  have e8 : List.range 8 = List.range n ++ (List.range m).map (n + ·) := by rw [← List.range_add, ← hm]
  unfold canon
  rw [List.filter_congr (q := fun k => decide (k < n) && p k) (fun k _ => key k), e8, List.filter_append, List.map_append]
  have z1 : ((List.range m).map (n + ·)).filter (fun k => decide (k < n) && p k) = [] := by
    rw [List.filter_eq_nil_iff]
    intro k hk
    obtain ⟨j, _, rfl⟩ := List.mem_map.mp hk
    simp
    omega
  rw [z1, List.map_nil, List.append_nil]
  congr 1
  apply List.filter_congr
  intro k hk
  simp [List.mem_range.mp hk]
theorem x_row (kind copy many number : Int) (c0 : 0 ≤ copy) (m1 : 1 ≤ many) (m6 : many ≤ 6) (G : List Cell) : ∃ xs : List Int, m__law_row [.int kind, .int copy, .int many, .int number] G = some (.ok (.own (.lst (xs.map W.int))), G) ∧ canon xs = xs := by
  unfold m__law_row
  rw [fnM_o]
  have h1 : 1 ≤ sz := by decide
  have h2 : 2 ≤ sz := by decide
  have c8 : CDivW number 8 := by unfold CDivW; constructor <;> decide
  have hfin : ∀ (ms : List Int) (v5 : SV), lcL [6] (tgN 6) (mB (mBin (fIn false) (mName 6) (mName 4))) (mName 6) ⟨rngW 0 8, none⟩ (rngW 0 8) [] ⟨[.val (.int kind), .val (.int copy), .val (.int many), .val (.int number), .own (.lst (ms.map W.int)), v5, .non], G⟩ =
      some (.ok (.own (.lst ((canon ms).map W.int))), ⟨[.val (.int kind), .val (.int copy), .val (.int many), .val (.int number), .own (.lst (ms.map W.int)), v5, .non], G⟩) := by
    intro ms v5
    rw [rng_map, lc_pure (by exact trivial) (fun (k : Nat) => decide ((0 : Int) + (k : Int) ∈ ms)) (fun (k : Nat) => W.int ((0 : Int) + (k : Int)))]
    · rw [canon_e]; simp
    · intro k _
      refine ⟨⟨[.val (.int kind), .val (.int copy), .val (.int many), .val (.int number), .own (.lst (ms.map W.int)), v5, .val (.int ((0 : Int) + (k : Int)))], G⟩, ?_, ?_, ?_⟩
      · simp [fIn_lI]
      · intro _
        exact ⟨⟨[.val (.int kind), .val (.int copy), .val (.int many), .val (.int number), .own (.lst (ms.map W.int)), v5, .val (.int ((0 : Int) + (k : Int)))], G⟩, by simp, by simp⟩
      · intro _; simp
    · simp [sz]
  have hbits : ∀ (n : Nat), n ≤ 8 → lcL [6] (tgN 6) (mB (mBin fEqD (mBin fMod (mCB fInt1 (mCons (mBin fShr (mName 3) (mName 6)) mNil)) (mC (.int 2))) (mC (.int 1)))) (mName 6) ⟨rngW 0 n, none⟩ (rngW 0 n) [] ⟨[.val (.int kind), .val (.int copy), .val (.int many), .val (.int number), .non, .val (.int n), .non], G⟩ =
      some (.ok (.own (.lst ((((List.range n).filter fun (k : Nat) => decide (number / 2 ^ k % 2 = 1)).map fun (k : Nat) => (k : Int)).map W.int))), ⟨[.val (.int kind), .val (.int copy), .val (.int many), .val (.int number), .non, .val (.int n), .non], G⟩) := by
    intro n hn
    rw [rng_map, lc_pure (by exact trivial) (fun (k : Nat) => decide (number / 2 ^ k % 2 = 1)) (fun (k : Nat) => W.int ((0 : Int) + (k : Int)))]
    · simp
    · intro k _
      refine ⟨⟨[.val (.int kind), .val (.int copy), .val (.int many), .val (.int number), .non, .val (.int n), .val (.int ((0 : Int) + (k : Int)))], G⟩, ?_, ?_, ?_⟩
      · simp [fEqD_i]
      · intro _
        exact ⟨⟨[.val (.int kind), .val (.int copy), .val (.int many), .val (.int number), .non, .val (.int n), .val (.int ((0 : Int) + (k : Int)))], G⟩, by simp, by simp⟩
      · intro _; simp
    · have : (8 : Nat) ≤ sz := by decide
      simp; omega
  have b8 := hbits 8 (by omega)
  have b3 := hbits 3 (by omega)
  by_cases k0 : kind = 0
  · subst k0
    refine ⟨_, ?_, canon_filter (n := 8) (by omega) fun (k : Nat) => decide (number / 2 ^ k % 2 = 1)⟩
    simp at b8
    simp [b__law_row, fEqD_i, b8]
  by_cases k5 : kind = 5
  · subst k5
    refine ⟨_, ?_, canon_filter (n := 3) (by omega) fun (k : Nat) => decide (number / 2 ^ k % 2 = 1)⟩
    simp at b3
    simp [b__law_row, fEqD_i, b3]
  suffices h : ∃ ms : List Int, outF (b__law_row ⟨[.val (.int kind), .val (.int copy), .val (.int many), .val (.int number), .non, .non, .non], G⟩) = some (.ok (.own (.lst ((canon ms).map W.int))), G) by
    obtain ⟨ms, h⟩ := h
    exact ⟨canon ms, h, canon_idem ms⟩
  have ml : ∀ (ms : List Int) (q : List W) (k : Int), ms.length ≤ 8 → q = ms.map W.int → fAdd (.lst q) (.lst [.int k]) = some (.newl ((ms ++ [k]).map W.int)) := fun ms q k hl hq => by
    subst hq
    rw [fAdd_ll (by show _ ≤ 16777216; simp; omega)]
    simp
  have g : ∀ (ms : List Int), ms.length ≤ 8 → ∃ ms2 : List Int, (if kind = 3 ∨ number / 8 % 4 = 0 then fAdd (.lst (ms.map W.int)) (.lst [.int (number % 8)]) else some (.newl (ms.map W.int))) = some (.newl (ms2.map W.int)) := fun ms hl => by
    split
    · exact ⟨_, ml ms _ _ hl rfl⟩
    · exact ⟨ms, rfl⟩
  have go : ∀ (ms : List Int) (v5 : SV), ms.length ≤ 8 → ∃ ms2 : List Int, outF ((mSeq (mIf (mOr (mB (mBin fEqD (mName 0) (mC (.int 3)))) (mB (mBin fEqD (mBin fMod (mCB fInt1 (mCons (mBin fDiv (mName 3) (mC (.int 8))) mNil)) (mC (.int 4))) (mC (.int 0))))) (mAsg 4 (mBin fAdd (mName 4) (mLst (mCons (mBin fMod (mCB fInt1 (mCons (mName 3) mNil)) (mC (.int 8))) mNil)))) mNext) (mRet (mLc [6] (mRng1 (mCons (mC (.int 8)) mNil)) (tgN 6) (mB (mBin (fIn false) (mName 6) (mName 4))) (mName 6)))) ⟨[.val (.int kind), .val (.int copy), .val (.int many), .val (.int number), .own (.lst (ms.map W.int)), v5, .non], G⟩) = some (.ok (.own (.lst ((canon ms2).map W.int))), G) := by
    intro ms v5 hl
    have hm := ml ms _ (number % 8) hl rfl
    by_cases k3 : kind = 3
    · refine ⟨ms ++ [number % 8], ?_⟩
      have hf := hfin (ms ++ [number % 8]) v5
      generalize ms ++ [number % 8] = ms3 at hm hf
      simp [fEqD_i, k3, h1, hm]
      rw [← k3, hf]
      simp
    · by_cases k4 : number / 8 % 4 = 0
      · refine ⟨ms ++ [number % 8], ?_⟩
        have hf := hfin (ms ++ [number % 8]) v5
        generalize ms ++ [number % 8] = ms3 at hm hf
        simp [fEqD_i, k3, k4, c8, h1, hm, hf]
      · exact ⟨ms, by simp [fEqD_i, k3, k4, c8, h1, hfin]⟩
  by_cases k1 : kind = 1
  · obtain ⟨ms2, h⟩ := go [copy, copy + 1] .non (by simp)
    refine ⟨ms2, ?_⟩
    rw [← h]
    simp [b__law_row, fEqD_i, k1, c8, h1, h2]
  by_cases k2 : kind = 2
  · by_cases q : copy = 0
    · have hr : Rl 0 (many - 1) := rl_le (by omega) (by omega) (by omega) (by omega)
      obtain ⟨ms2, h⟩ := go ((List.range (many - 1).toNat).map fun (k : Nat) => (0 : Int) + (k : Int)) .non (by simp; omega)
      refine ⟨ms2, ?_⟩
      rw [← h]
      have e : rngW 0 (many - 1).toNat = ((List.range (many - 1).toNat).map fun (k : Nat) => (0 : Int) + (k : Int)).map W.int := by rw [List.map_map]; rfl
      rw [← e]
      simp [b__law_row, fEqD_i, k2, c8, h1, h2, q, hr]
    · obtain ⟨ms2, h⟩ := go [copy - 1] .non (by simp)
      refine ⟨ms2, ?_⟩
      rw [← h]
      simp [b__law_row, fEqD_i, k2, c8, h1, h2, q]
  by_cases k4 : kind = 4
  · have hm : (0 : Int) < many := by omega
    obtain ⟨ms2, h⟩ := go [copy, (copy + 1) % many] .non (by simp)
    refine ⟨ms2, ?_⟩
    rw [← h]
    simp [b__law_row, fEqD_i, k4, c8, h1, h2, hm]
  · obtain ⟨ms2, h⟩ := go [number / 8 % 8] .non (by simp)
    refine ⟨ms2, ?_⟩
    rw [← h]
    simp [b__law_row, fEqD_i, k0, k1, k2, k4, k5, c8, h1, h2]
end Z
set_option linter.all false
set_option maxRecDepth 100000
namespace Z
open PySem PySem.Spec PyProof.Rows L2
def r256 : List Int := List.replicate 6 256
def lims8 (k : Int) : List Int := [6, k] ++ r256
theorem lims256 : fMul (.lst [.int 256]) (.int 6) = some (.newl (r256.map W.int)) := rfl
theorem fAdd_lims {k : Int} : fAdd (.lst [.int 6, .int k]) (.lst (r256.map W.int)) = some (.newl ((lims8 k).map W.int)) := rfl
theorem x_rows (cell least top : Int) (l1 : 1 ≤ least) (lt : least ≤ top) (t6 : top ≤ 6) (G : List Cell) : ∃ rs : List (List Int), m__law_rows [.int cell, .int least, .int top] G = some (.ok (.own (.lst (rs.map lstI))), G) ∧ least ≤ rs.length ∧ rs.length ≤ top ∧ ∀ xs ∈ rs, canon xs = xs := by
  unfold m__law_rows
  rw [fnM_o]
  have h1 : 1 ≤ sz := by decide
  have h2 : 2 ≤ sz := by decide
  obtain ⟨xs, hx, hlen, hlim⟩ := x_numbers cell 1 (lims8 (1 + top - least)) (by
    intro l hl
    simp [lims8, r256] at hl
    rcases hl with rfl | rfl | rfl
    · decide
    · refine ⟨by omega, ?_⟩
      exact Nat.lt_of_le_of_lt (Nat.log2_le_self _) (by omega)
    · decide) (by simp [lims8, r256]) G
  have hlen8 : xs.length = 8 := by rw [hlen]; simp [lims8, r256]
  have a0 : atI (xs.map W.int) 0 = some (.int (xs[0]'(by omega))) := atI_mapI (k := 0) (by omega)
  have a1 : atI (xs.map W.int) 1 = some (.int (xs[1]'(by omega))) := atI_mapI (k := 1) (by omega)
  have b1 := hlim 1 _ (1 + top - least) (List.getElem?_eq_getElem (by omega)) rfl
  generalize xs[0]'(by omega) = kind at a0
  generalize xs[1]'(by omega) = more at a1 b1
  obtain ⟨n, hn⟩ := Int.eq_ofNat_of_zero_le (a := least + more) (by omega)
  have hR : Rk (n : Int) := rk_nat (by omega)
  simp [b__law_rows, h1, h2, lims256, fAdd_lims, hx, a1, hn, hR]
  generalize hF : lcL _ _ _ _ _ _ _ _ = F
  obtain ⟨acc, s', rfl, ⟨rs, rfl, e1, e2, rfl⟩, _⟩ := lc_at hF (fun i acc s => ∃ rs : List (List Int), acc = rs.map lstI ∧ rs.length = i ∧ (∀ xs ∈ rs, canon xs = xs) ∧ s = ⟨[.val (.int cell), .val (.int least), .val (.int top), .own (.lst (xs.map W.int)), .val (.int n), .non], G⟩) (fun _ _ _ _ => by trivial) ⟨[], rfl, rfl, by simp, rfl⟩ (by
      have : (1000 : Nat) ≤ sz := by decide
      simp [rngW]; omega) (by
    rintro i hi acc s ⟨rs, rfl, e1, e2, rfl⟩
    simp [rngW] at hi
    have ai : atI (xs.map W.int) (2 + (i : Int)) = some (.int (xs[2 + i]'(by omega))) := by
      have := atI_mapI (xs := xs) (k := 2 + i) (by omega)
      simpa using this
    obtain ⟨ys, hy, hc⟩ := x_row kind i n (xs[2 + i]'(by omega)) (by omega) (by omega) (by omega) G
    refine ⟨true, ⟨[.val (.int cell), .val (.int least), .val (.int top), .own (.lst (xs.map W.int)), .val (.int n), .val (.int i)], G⟩, by simp [rngW], fun _ => ⟨lstI ys, ⟨[.val (.int cell), .val (.int least), .val (.int top), .own (.lst (xs.map W.int)), .val (.int n), .val (.int i)], G⟩, ?_, rs ++ [ys], by simp, by simp [e1], ?_, by simp⟩, fun h => by cases h⟩
    · simp [a0, ai, hy]
      rfl
    · intro zs hz
      rcases List.mem_append.mp hz with hz | hz
      · exact e2 zs hz
      · simp at hz; subst hz; exact hc)
  simp [rngW] at e1
  simp
  exact ⟨rs, rfl, by omega, by omega, e2⟩
theorem canon_k8 {rs : List (List Int)} (h : ∀ xs ∈ rs, canon xs = xs) : ∀ xs ∈ rs, ∀ k ∈ xs, 0 ≤ k ∧ k < 8 := fun x hx k hk => by
  rw [← h x hx] at hk
  exact ⟨(canon_mem hk).1, (canon_mem hk).2.1⟩
theorem canon_map {rs : List (List Int)} (h : ∀ xs ∈ rs, canon xs = xs) : rs.map canon = rs := by
  rw [List.map_congr_left (fun xs hx => h xs hx), List.map_id']
def nmask (f : Nat → Bool) : Nat := ((List.range 8).map fun k => if f k then 2 ^ k else 0).sum
theorem sum_filter (p : Nat → Bool) (g : Nat → Int) : ∀ l : List Nat, ((l.filter p).map g).sum = (l.map fun k => if p k then g k else 0).sum
  | [] => rfl
  | x :: l => by
    simp only [List.filter_cons, List.map_cons, List.sum_cons]
    cases p x with
    | true => simp [sum_filter p g l]
    | false => simp [sum_filter p g l]
theorem mask_nat {xs : List Int} (h : canon xs = xs) : mask xs = (nmask fun k => decide ((k : Int) ∈ xs) : Nat) := by
  have e : mask (canon xs) = (nmask fun k => decide ((k : Int) ∈ xs) : Nat) := by
    unfold mask canon nmask
    rw [List.map_map, sum_filter]
    have r8 : List.range 8 = [0, 1, 2, 3, 4, 5, 6, 7] := rfl
    rw [r8]
    simp only [List.map_cons, List.map_nil, List.sum_cons, List.sum_nil, Function.comp_apply, Int.toNat_natCast]
    have pw : ∀ b : Bool, ∀ n : Nat, (if b = true then (2 : Int) ^ n else 0) = ((if b = true then 2 ^ n else 0 : Nat) : Int) := fun b n => by cases b <;> simp
    simp only [pw]
    simp only [Int.natCast_add, Int.natCast_zero]
  rw [← e, h]
theorem nmask_bit8 : ∀ b0 b1 b2 b3 b4 b5 b6 b7 : Bool, ∀ j, j < 8 → ((if b0 then 1 else 0) + ((if b1 then 2 else 0) + ((if b2 then 4 else 0) + ((if b3 then 8 else 0) + ((if b4 then 16 else 0) + ((if b5 then 32 else 0) + ((if b6 then 64 else 0) + ((if b7 then 128 else 0) + 0)))))))).testBit j = [b0, b1, b2, b3, b4, b5, b6, b7].getD j false := by decide +kernel
theorem nmask_bit (f : Nat → Bool) (j : Nat) (h : j < 8) : (nmask f).testBit j = f j := by
  have := nmask_bit8 (f 0) (f 1) (f 2) (f 3) (f 4) (f 5) (f 6) (f 7) j h
  unfold nmask
  rw [show List.range 8 = [0, 1, 2, 3, 4, 5, 6, 7] from rfl]
  simp only [List.map_cons, List.map_nil, List.sum_cons, List.sum_nil]
  refine Eq.trans this ?_
  have : j = 0 ∨ j = 1 ∨ j = 2 ∨ j = 3 ∨ j = 4 ∨ j = 5 ∨ j = 6 ∨ j = 7 := by omega
  rcases this with rfl | rfl | rfl | rfl | rfl | rfl | rfl | rfl <;> rfl
theorem nmask_lt (f : Nat → Bool) : nmask f < 2 ^ 8 := by
  unfold nmask
  rw [show List.range 8 = [0, 1, 2, 3, 4, 5, 6, 7] from rfl]
  simp only [List.map_cons, List.map_nil, List.sum_cons, List.sum_nil]
  repeat' split
  all_goals decide
def common (xs ys : List Int) : Bool := xs.any fun k => decide (k ∈ ys)
def lineB (rs : List (List Int)) (s t : Nat) : Bool := decide (s ≠ t) && common (rs.getD s []) (rs.getD t [])
def linesFrom (rs : List (List Int)) (s : Nat) : List (List Int) := ((List.range rs.length).filter fun t => lineB rs s t).map fun (t : Nat) => [(s : Int), (t : Int)]
def linesOf (rs : List (List Int)) : List (List Int) := (List.range rs.length).flatMap (linesFrom rs)
end Z
set_option linter.all false
set_option maxRecDepth 100000
namespace Z
open PySem PySem.Spec PyProof.Rows L2
def sharedOf (xs ys : List Int) : List Int := xs.filter fun k => decide (k ∈ ys)
theorem shared_nil {xs ys : List Int} : sharedOf xs ys = [] ↔ common xs ys = false := by
  unfold sharedOf common
  rw [List.filter_eq_nil_iff, List.any_eq_false]
structure RowE (e : List Int → W) : Prop where
  walk : ∀ s xs, walkOf s (e xs) = some ⟨xs.map W.int, none⟩
  inn : ∀ neg k xs, fIn neg (.int k) (e xs) = some (.imm (.bl (decide (k ∈ xs) != neg)))
  look : ∀ r G xs, look (.val (e xs)) ⟨r, G⟩ = some (.ok (e xs), ⟨r, G⟩)
  tup : ∀ xs, fTuple [e xs] = some (.imm (tupI xs)) ∨ fTuple [e xs] = some (.newt (xs.map W.int))
  lst : ∀ xs, fList [e xs] = some (.newl (xs.map W.int))
theorem rowE_lst : RowE lstI := ⟨fun _ _ => rfl, fun neg k xs => fIn_lI neg k xs, fun _ _ _ => rfl, fun xs => .inr rfl, fun _ => rfl⟩
theorem x_law_linesR {e : List Int → W} (he : RowE e) (rs : List (List Int)) (hl : rs.length ≤ 1000) (h8 : ∀ xs ∈ rs, xs.length ≤ 8) (G : List Cell) {R : W} (hR0 : ∀ r, look (.val R) ⟨r, G⟩ = some (.ok (.lst (rs.map e)), ⟨r, G⟩)) : m__law_lines [R] G = some (.ok (.own (.lst ((linesOf rs).map tupI))), G) := by
  unfold m__law_lines
  rw [fnM_o]
  have hR : Rk (rs.length : Int) := rk_nat (by omega)
  have z2 : 2 ≤ sz := by decide
  simp [b__law_lines, hR, hR0]
  generalize hF : forL _ _ _ _ = F
  obtain ⟨s', rfl, v2, v3, rfl⟩ := forL_at hF (fun i s => ∃ v2 v3, s = ⟨[.val R, .own (.lst (((List.range i).flatMap (linesFrom rs)).map tupI)), v2, v3, .non], G⟩) ⟨.non, .non, by simp⟩ (by
    rintro i hi s ⟨v2, v3, rfl⟩
    simp [rngW] at hi
    have hA : ((List.range i).flatMap (linesFrom rs)).length ≤ i * rs.length := by
      rw [List.length_flatMap]
      have : ∀ l : List Nat, (l.map fun s => (linesFrom rs s).length).sum ≤ l.length * rs.length := by
        intro l
        induction l with
        | nil => simp
        | cons x l ih =>
          have : (linesFrom rs x).length ≤ rs.length := by
            unfold linesFrom
            rw [List.length_map]
            exact Nat.le_trans (List.length_filter_le _ _) (by simp)
          simp only [List.map_cons, List.sum_cons, List.length_cons]
          rw [Nat.succ_mul]
          omega
      have h := this (List.range i)
      simpa using h
    have hA2 : i * rs.length ≤ 1000 * 1000 := Nat.mul_le_mul (by omega) hl
    have e1 : (List.range (i + 1)).flatMap (linesFrom rs) = (List.range i).flatMap (linesFrom rs) ++ linesFrom rs i := by
      rw [List.range_succ, List.flatMap_append]; simp
    rw [e1]
    generalize (List.range i).flatMap (linesFrom rs) = A at hA
    simp [rngW, hR, hR0]
    generalize hF2 : forL _ _ _ _ = F2
    obtain ⟨s', rfl, v3', rfl⟩ := forL_at hF2 (fun j s => ∃ v3, s = ⟨[.val R, .own (.lst ((A ++ ((List.range j).filter fun t => lineB rs i t).map fun (t : Nat) => [(i : Int), (t : Int)]).map tupI)), .val (.int i), v3, .non], G⟩) ⟨v3, by simp⟩ (by
      rintro j hj s ⟨v3, rfl⟩
      simp [rngW] at hj
      have ei : atI (rs.map e) (i : Int) = some (e rs[i]) := atI_nat (by simp [hi])
      have ej : atI (rs.map e) (j : Int) = some (e rs[j]) := atI_nat (by simp [hj])
      have e2 : ∀ k, fIn false (.int k) (e rs[j]) = some (.imm (.bl (decide (k ∈ rs[j]) != false))) := fun k => he.inn false k _
      have hB : ((List.range j).filter fun t => lineB rs i t).length ≤ j := Nat.le_trans (List.length_filter_le _ _) (by simp)
      have e3 : ((List.range (j + 1)).filter fun t => lineB rs i t) = ((List.range j).filter fun t => lineB rs i t) ++ (if lineB rs i j then [j] else []) := by
        rw [List.range_succ, List.filter_append]
        congr 1
        cases hz : lineB rs i j <;> simp [hz]
      rw [e3]
      generalize hB2 : ((List.range j).filter fun t => lineB rs i t) = B at hB
      generalize hC : A ++ (B.map fun (t : Nat) => [(i : Int), (t : Int)]) = C
      have hlC : C.length < sz := by rw [← hC]; show _ < 16777216; simp; omega
      have hlc : lcL [4] (tgN 4) (mB (mBin (fIn false) (mName 4) (mBin fIx (mName 0) (mName 3)))) (mName 4) ⟨rs[i].map W.int, none⟩ (rs[i].map W.int) [] ⟨[.val R, .own (.lst (C.map tupI)), .val (.int i), .val (.int j), .non], G⟩ =
          some (.ok (.own (.lst ((sharedOf rs[i] rs[j]).map W.int))), ⟨[.val R, .own (.lst (C.map tupI)), .val (.int i), .val (.int j), .non], G⟩) := by
        rw [lc_pure (by exact trivial) (fun k => decide (k ∈ rs[j])) W.int]
        · simp [sharedOf]
        · intro k _
          exact ⟨⟨[.val R, .own (.lst (C.map tupI)), .val (.int i), .val (.int j), .val (.int k)], G⟩, by simp [ej, he.look, e2, hR0], fun _ => ⟨⟨[.val R, .own (.lst (C.map tupI)), .val (.int i), .val (.int j), .val (.int k)], G⟩, by simp, by simp⟩, fun _ => by simp⟩
        · have := h8 _ (List.getElem_mem hi)
          show _ ≤ 16777216
          simp; omega
      have hne : fNeD (.lst ((sharedOf rs[i] rs[j]).map W.int)) (.lst []) = some (.imm (.bl (decide (sharedOf rs[i] rs[j] ≠ [])))) := fNeD_emb (emb_lst emb_int) (by decide) (sharedOf rs[i] rs[j]) []
      have hb : lineB rs i j = (decide (i ≠ j) && common rs[i] rs[j]) := by simp [lineB, hi, hj]
      have hlm : (C.map tupI).length < sz := by simpa using hlC
      by_cases hij : i = j
      · have hb' : lineB rs i j = false := by rw [hb]; simp [hij]
        refine ⟨⟨[.val R, .own (.lst (C.map tupI)), .val (.int i), .val (.int j), .non], G⟩, by simp [rngW, fNeD_i, hij], .val (.int j), ?_⟩
        rw [hb']
        simp only [Bool.false_eq_true, if_false, List.append_nil]
        rw [hC]
      · have hij' : ¬ (i : Int) = j := by omega
        cases hcm : common rs[i] rs[j] with
        | false =>
          have hb' : lineB rs i j = false := by rw [hb, hcm]; simp
          have hs := shared_nil.mpr hcm
          have hne0 : fNeD (.lst []) (.lst []) = some (.imm (.bl false)) := rfl
          refine ⟨⟨[.val R, .own (.lst (C.map tupI)), .val (.int i), .val (.int j), .non], G⟩, by simp [rngW, fNeD_i, hij', ei, hR0, he.walk, he.look, hlc, hne, hs, hne0], .val (.int j), ?_⟩
          rw [hb']
          simp only [Bool.false_eq_true, if_false, List.append_nil]
          rw [hC]
        | true =>
          have hb' : lineB rs i j = true := by rw [hb, hcm]; simp [hij]
          have hs : ¬ sharedOf rs[i] rs[j] = [] := fun z => by rw [shared_nil.mp z] at hcm; cases hcm
          refine ⟨⟨[.val R, .own (.lst (C.map tupI ++ [.tup [.int i, .int j]])), .val (.int i), .val (.int j), .non], G⟩, by simp [rngW, fNeD_i, hij', ei, hR0, he.walk, he.look, hlc, hne, hs, z2, fAppend, hlC], .val (.int j), ?_⟩
          rw [hb']
          simp only [if_true, List.map_append]
          rw [← hC]
          simp [tupI])
    refine ⟨_, rfl, .val (.int i), v3', ?_⟩
    simp [rngW, linesFrom])
  simp [rngW, linesOf]
theorem x_law_linesE {e : List Int → W} (he : RowE e) (rs : List (List Int)) (hl : rs.length ≤ 1000) (h8 : ∀ xs ∈ rs, xs.length ≤ 8) (G : List Cell) : m__law_lines [.lst (rs.map e)] G = some (.ok (.own (.lst ((linesOf rs).map tupI))), G) := x_law_linesR he rs hl h8 G fun _ => rfl
theorem x_law_lines (rs : List (List Int)) (hl : rs.length ≤ 1000) (h8 : ∀ xs ∈ rs, xs.length ≤ 8) (G : List Cell) : m__law_lines [.lst (rs.map lstI)] G = some (.ok (.own (.lst ((linesOf rs).map tupI))), G) := x_law_linesE rowE_lst rs hl h8 G
end Z
set_option linter.all false
set_option maxRecDepth 100000
set_option maxHeartbeats 1000000
namespace Z
open PySem PySem.Spec PyProof.Rows L2
theorem bAnd_n (a b : Nat) : Builtin.bitAnd (a : Int) (b : Int) = ((a &&& b : Nat) : Int) := by
  unfold Builtin.bitAnd
  have h1 : decide ((0 : Int) ≤ (a : Int)) = true := by simp
  have h2 : decide ((0 : Int) ≤ (b : Int)) = true := by simp
  rw [h1, h2]
  simp
theorem and_m2 (a b : Nat) : (a &&& b) % 2 = (a % 2) &&& (b % 2) := by
  have := Nat.and_mod_two_pow (a := a) (b := b) (n := 1)
  simpa using this
theorem sub_and_bit : ∀ (e a b : Nat), (a - (a &&& b)).testBit e = (a.testBit e && !b.testBit e)
  | 0, a, b => by
    have h : (a &&& b) ≤ a := Nat.and_le_left
    have h2 := and_m2 a b
    simp only [Nat.testBit_zero]
    rcases Nat.mod_two_eq_zero_or_one a with ha | ha <;> rcases Nat.mod_two_eq_zero_or_one b with hb | hb <;> rw [ha, hb] at h2 <;> rw [Bool.eq_iff_iff] <;> simp only [ha, hb, decide_eq_true_eq, Bool.and_eq_true, Bool.not_eq_true', decide_eq_false_iff_not]
    · have q : (a &&& b) % 2 = 0 := h2
      generalize a &&& b = g at *
      simp
      omega
    · have q : (a &&& b) % 2 = 0 := h2
      generalize a &&& b = g at *
      simp
      omega
    · have q : (a &&& b) % 2 = 0 := h2
      generalize a &&& b = g at *
      simp
      omega
    · have q : (a &&& b) % 2 = 1 := h2
      generalize a &&& b = g at *
      simp
      omega
  | e + 1, a, b => by
    have h : (a &&& b) ≤ a := Nat.and_le_left
    have hd : (a &&& b) / 2 = a / 2 &&& b / 2 := Nat.and_div_two
    have h2 : (a &&& b) % 2 ≤ a % 2 := by
      rw [and_m2]
      exact Nat.and_le_left
    have : (a - (a &&& b)) / 2 = a / 2 - (a / 2 &&& b / 2) := by omega
    rw [Nat.testBit_succ, Nat.testBit_succ, Nat.testBit_succ, this, sub_and_bit e (a / 2) (b / 2)]
theorem bAndNot_n (a b : Nat) : Builtin.bitAnd (a : Int) (Builtin.bitNot (b : Int)) = ((a - (a &&& b) : Nat) : Int) := by
  have h : (a &&& b) ≤ a := Nat.and_le_left
  unfold Builtin.bitAnd Builtin.bitNot
  have h1 : decide ((0 : Int) ≤ (a : Int)) = true := by simp
  have h2 : decide ((0 : Int) ≤ -(b : Int) - 1) = false := by simp; omega
  rw [h1, h2]
  have h3 : (-(-(b : Int) - 1) - 1).toNat = b := by omega
  simp only [h3, Int.toNat_natCast]
  omega
theorem bOr_n (a b : Nat) : Builtin.bitOr (a : Int) (b : Int) = ((a ||| b : Nat) : Int) := by
  unfold Builtin.bitOr Builtin.bitAnd Builtin.bitNot
  have h1 : decide ((0 : Int) ≤ -(a : Int) - 1) = false := by simp; omega
  have h2 : decide ((0 : Int) ≤ -(b : Int) - 1) = false := by simp; omega
  rw [h1, h2]
  have h3 : (-(-(a : Int) - 1) - 1).toNat = a := by omega
  have h4 : (-(-(b : Int) - 1) - 1).toNat = b := by omega
  simp only [h3, h4]
  omega
theorem and_one_bit (a e : Nat) : Builtin.bitAnd ((a : Int) / 2 ^ e) 1 = if a.testBit e = true then 1 else 0 := by
  have h : ((a : Int) / 2 ^ e) = ((a / 2 ^ e : Nat) : Int) := by
    push_cast
    rfl
  rw [h, show (1 : Int) = ((1 : Nat) : Int) from rfl, bAnd_n, Nat.and_one_is_mod]
  have : a.testBit e = decide (a / 2 ^ e % 2 = 1) := by
    rw [Nat.testBit_eq_decide_div_mod_eq]
  rw [this]
  rcases Nat.mod_two_eq_zero_or_one (a / 2 ^ e) with q | q <;> simp [q]
end Z
set_option linter.all false
set_option maxRecDepth 100000
set_option maxHeartbeats 2000000
namespace Z
open PySem PySem.Spec PyProof.Rows L2
def rowB (rs : List (List Int)) (c : Nat) : Nat → Bool := fun k => decide ((k : Int) ∈ rs.getD c [])
def unB (rs : List (List Int)) (l : List Nat) : Nat → Bool := fun k => l.any fun c => rowB rs c k
def keyB (rs : List (List Int)) (a b : Nat) (l : List Nat) : Nat → Bool := fun k => (rowB rs a k && rowB rs b k) && !unB rs l k
def fk (f : Nat → Bool) : List Nat := (List.range 8).filter f
def low (f : Nat → Bool) : Nat := (fk f).headD 0
theorem nm_hi (f : Nat → Bool) {j : Nat} (h : ¬ j < 8) : (nmask f).testBit j = false := Nat.testBit_lt_two_pow (Nat.lt_of_lt_of_le (nmask_lt f) (Nat.pow_le_pow_right (by omega) (by omega)))
theorem nm_eq {f : Nat → Bool} {n : Nat} (h : ∀ j, n.testBit j = (decide (j < 8) && f j)) : n = nmask f := by
  apply Nat.eq_of_testBit_eq
  intro j
  rw [h]
  by_cases q : j < 8
  · rw [nmask_bit f j q]; simp [q]
  · rw [nm_hi f q]; simp [q]
theorem nm_and (f g : Nat → Bool) : nmask f &&& nmask g = nmask fun k => f k && g k := nm_eq fun j => by
  rw [Nat.testBit_and]
  by_cases q : j < 8
  · rw [nmask_bit f j q, nmask_bit g j q]; simp [q]
  · rw [nm_hi f q]; simp [q]
theorem nm_or (f g : Nat → Bool) : nmask f ||| nmask g = nmask fun k => f k || g k := nm_eq fun j => by
  rw [Nat.testBit_or]
  by_cases q : j < 8
  · rw [nmask_bit f j q, nmask_bit g j q]; simp [q]
  · rw [nm_hi f q, nm_hi g q]; simp [q]
theorem nm_not (f g : Nat → Bool) : nmask f - (nmask f &&& nmask g) = nmask fun k => f k && !g k := nm_eq fun j => by
  rw [sub_and_bit]
  by_cases q : j < 8
  · rw [nmask_bit f j q, nmask_bit g j q]; simp [q]
  · rw [nm_hi f q]; simp [q]
theorem fk_nil {f : Nat → Bool} : fk f = [] ↔ ∀ j, j < 8 → f j = false := by
  unfold fk
  rw [List.filter_eq_nil_iff]
  simp
theorem nm_zero {f : Nat → Bool} : nmask f = 0 ↔ fk f = [] := by
  rw [fk_nil]
  constructor
  · intro h j hj
    rw [← nmask_bit f j hj, h, Nat.zero_testBit]
  · intro h
    refine (nm_eq (f := f) (n := 0) fun j => ?_).symm
    rw [Nat.zero_testBit]
    by_cases q : j < 8
    · simp [q, h j q]
    · simp [q]
def nmW (f : Nat → Bool) : W := .int (nmask f : Nat)
section
variable {f g : Nat → Bool} {r : List SV} {G : List Cell} {s : S}
theorem fBAnd_nm : fBAnd (nmW f) (nmW g) = some (.imm (nmW fun k => f k && g k)) := by
  show some (OR.imm (.int (Builtin.bitAnd (nmask f : Nat) (nmask g : Nat)))) = _
  rw [bAnd_n, nm_and]
  rfl
theorem fInv_nm : fInv (nmW g) = some (.imm (.int (Builtin.bitNot (nmask g : Nat)))) := rfl
theorem fBAndN_nm : fBAnd (nmW f) (.int (Builtin.bitNot (nmask g : Nat))) = some (.imm (nmW fun k => f k && !g k)) := by
  show some (OR.imm (.int (Builtin.bitAnd (nmask f : Nat) (Builtin.bitNot (nmask g : Nat))))) = _
  rw [bAndNot_n, nm_not]
  rfl
theorem fOr_nm : fOrA1 (nmW f) (nmW g) = some (.imm (nmW fun k => f k || g k)) := by
  show some (OR.imm (.int (Builtin.bitOr (nmask f : Nat) (nmask g : Nat)))) = _
  rw [bOr_n, nm_or]
  rfl
theorem fEq0_nm : fEqD (nmW f) (.int 0) = some (.imm (.bl (decide (fk f = [])))) := by
  have : ((nmask f : Nat) : Int) = 0 ↔ fk f = [] := by rw [← nm_zero]; omega
  unfold nmW
  rw [fEqD_i]
  simp only [this]
theorem fNe0_nm : fNeD (nmW f) (.int 0) = some (.imm (.bl (!decide (fk f = [])))) := by
  have : ((nmask f : Nat) : Int) = 0 ↔ fk f = [] := by rw [← nm_zero]; omega
  unfold nmW
  rw [fNeD_i]
  by_cases h : fk f = []
  · have := this.mpr h
    simp [this, h]
  · have : ¬ ((nmask f : Nat) : Int) = 0 := fun z => h (this.mp z)
    rw [decide_eq_true this, decide_eq_false h]
    rfl
@[simp] theorem look_nm : look (.val (nmW f)) ⟨r, G⟩ = some (.ok (nmW f), ⟨r, G⟩) := rfl
@[simp] theorem deref_nm : derefW s (nmW f) = some (nmW f) := rfl
end
theorem fk_mem {f : Nat → Bool} {k : Nat} : k ∈ fk f ↔ k < 8 ∧ f k = true := by
  unfold fk
  simp
theorem low_ok {f : Nat → Bool} (h : fk f ≠ []) : low f < 8 ∧ f (low f) = true ∧ ∀ j, j < low f → f j = false := by
  unfold low
  cases e : fk f with
  | nil => exact absurd e h
  | cons k l =>
    have hk : k ∈ fk f := by rw [e]; exact List.mem_cons_self
    obtain ⟨h1, h2⟩ := fk_mem.mp hk
    refine ⟨h1, h2, fun j hj => ?_⟩
    show f j = false
    have hj : j < k := hj
    cases q : f j with
    | false => rfl
    | true =>
      have : j ∈ fk f := fk_mem.mpr ⟨by omega, q⟩
      rw [e] at this
      have srt : (k :: l).Pairwise (· < ·) := by
        rw [← e]
        exact List.Pairwise.filter _ List.pairwise_lt_range
      rcases List.mem_cons.mp this with z | z
      · omega
      · have := (List.pairwise_cons.mp srt).1 j z
        omega
theorem x_lowest {f : Nat → Bool} (h : fk f ≠ []) (G : List Cell) : m_lowest [nmW f] G = some (.ok (.val (.int (low f : Nat))), G) := by
  unfold m_lowest
  rw [fnM_e]
  obtain ⟨h1, h2, h3⟩ := low_ok h
  generalize low f = m at h1 h2 h3 ⊢
  obtain ⟨s', e, ⟨k, hk, rfl⟩, hg⟩ := mWhile_at (c := mB (mBin fEqD (mBin fBAnd (mBin fShr (mName 0) (mName 1)) (mC (.int 1))) (mC (.int 0)))) (b := mAug 1 fAddA1 (mC (.int 1))) (s := ⟨[.val (nmW f), .val (.int (0 : Nat))], G⟩)
    (fun s => ∃ k : Nat, k ≤ m ∧ s = ⟨[.val (nmW f), .val (.int (k : Nat))], G⟩) (fun s => match s.r with | [_, .val (.int i)] => (8 - i.toNat) | _ => 0) (fun s => match s.r with | [_, .val (.int i)] => !f i.toNat | _ => false) ⟨0, Nat.zero_le _, rfl⟩ (Nat.lt_of_le_of_lt (Nat.sub_le _ _) (Nat.lt_trans (by decide : 8 < 99999) fuel_ge)) (by
      rintro s ⟨k, hk, rfl⟩
      have sh : fShr (nmW f) (.int (k : Nat)) = some (.imm (.int ((nmask f : Nat) / 2 ^ k))) := by
        unfold nmW
        rw [fShr_i, if_pos (by omega), Int.toNat_natCast]
      have an : fBAnd (.int ((nmask f : Nat) / 2 ^ k)) (.int 1) = some (.imm (.int (if f k = true then 1 else 0))) := by
        show some (OR.imm (.int (Builtin.bitAnd _ 1))) = _
        rw [and_one_bit, nmask_bit f k (by omega)]
      refine ⟨⟨[.val (nmW f), .val (.int (k : Nat))], G⟩, ?_, fun _ => rfl, fun hg => ?_⟩
      · cases q : f k <;> simp [sh, an, q, fEqD_i]
      · have q : f k = false := by simpa using hg
        have lt : k < m := by
          rcases Nat.lt_or_ge k m with z | z
          · exact z
          · have : k = m := by omega
            subst this
            rw [h2] at q; cases q
        exact ⟨⟨[.val (nmW f), .val (.int ((k + 1 : Nat)))], G⟩, by simp, ⟨k + 1, lt, rfl⟩, by simp; omega⟩)
  have hk' : f k = true := by simpa using hg
  have : k = m := by
    rcases Nat.lt_or_ge k m with z | z
    · rw [h3 k z] at hk'; cases hk'
    · omega
  subst this
  have e : mWhile (mB (mBin fEqD (mBin fBAnd (mBin fShr (mName 0) (mName 1)) (mC (.int 1))) (mC (.int 0)))) (mAug 1 fAddA1 (mC (.int 1))) ⟨[.val (nmW f), .val (.int 0)], G⟩ = _ := e
  simp [b_lowest, e]
end Z
set_option linter.all false
set_option maxRecDepth 100000
set_option maxHeartbeats 4000000
namespace Z
open PySem PySem.Spec PyProof.Rows L2
def natI (l : List Nat) : W := tupI (l.map fun (c : Nat) => (c : Int))
theorem dd_nodup {ns : List Int} (h : ns.Nodup) : ddN ns = ns.length := by
  unfold ddN
  rw [RZ.firstMet_nodup h ns.length (Nat.le_refl _)]
  simp
theorem dd_full {ns : List Int} : ∀ i, i ≤ ns.length → (firstMet (fun i => ns.getD i 0) i).length = i → (ns.take i).Nodup
  | 0, _, _ => by simp
  | i + 1, hi, h => by
    have hlt : i < ns.length := hi
    have le := firstMet_length_le (fun i => ns.getD i 0) i
    have e1 : ns.getD i 0 = ns[i] := by
      rw [List.getD_eq_getElem?_getD, List.getElem?_eq_getElem hlt]
      rfl
    rw [firstMet_succ] at h
    unfold step_dedup at h
    by_cases q : (firstMet (fun i => ns.getD i 0) i).any (· == ns.getD i 0) = true
    · rw [if_pos q] at h
      omega
    · rw [if_neg q] at h
      simp only [List.length_append, List.length_singleton] at h
      have ih := dd_full i (Nat.le_of_lt hlt) (by omega)
      rw [firstMet_any] at q
      rw [List.take_succ_eq_append_getElem hlt, List.nodup_append]
      refine ⟨ih, by simp, fun a ha b hb => ?_⟩
      rw [List.mem_singleton] at hb
      subst hb
      intro z
      subst z
      apply q
      rw [List.any_eq_true]
      refine ⟨ns[i], ?_, by rw [e1]; simp⟩
      rw [List.mem_map]
      obtain ⟨j, hj, e⟩ := List.mem_iff_getElem.mp ha
      have hj' : j < i := by
        have := hj
        rw [List.length_take] at this
        omega
      refine ⟨j, List.mem_range.mpr hj', ?_⟩
      rw [List.getElem_take] at e
      rw [List.getD_eq_getElem?_getD, List.getElem?_eq_getElem (by omega)]
      exact e
theorem dd_lt {ns : List Int} : ddN ns < ns.length ↔ ¬ ns.Nodup := by
  constructor
  · intro h n
    rw [dd_nodup n] at h
    omega
  · intro n
    have le := firstMet_length_le (fun i => ns.getD i 0) ns.length
    have : ddN ns ≠ ns.length := fun e => n (by
      have := dd_full (ns := ns) ns.length (Nat.le_refl _) e
      rwa [List.take_length] at this)
    have : ddN ns ≤ ns.length := le
    omega
def isPathB (n : Nat) (xs : List Int) : Bool := decide (3 ≤ xs.length) && (decide xs.Nodup && xs.all fun (c : Int) => decide (0 ≤ c) && decide (c < n))
theorem x_is_path (rs : List (List Int)) (hn : rs.length ≤ 1000) (xs : List Int) (hl : xs.length ≤ 60) (G : List Cell) : m_is_path [lay rs, tupI xs] G = some (.ok (.val (.bl (isPathB rs.length xs))), G) := by
  unfold m_is_path
  rw [fnM_e]
  have dd : ddW (tupI xs) = some (ddN xs) := by
    show (match intsOf (xs.map W.int) with | some ns => if ns.length ≤ 60 then some (ddN ns) else none | none => none) = _
    rw [intsOf_ints]
    exact if_pos hl
  have ln : fLen [tupI xs] = some (.imm (.int xs.length)) := by
    show some (OR.imm (.int ((xs.map W.int).length : Nat))) = _
    rw [List.length_map]
  have lk : Lk (rs.length : Int) := lk_nat (by omega)
  have lc : lcL [2] (tgN 2) mYes (mChain fLe fLt (mC (.int 0)) (mName 2) (mLenO "Layout" m_Layout___len__ (mCons (mName 0) mNil))) ⟨xs.map W.int, none⟩ (xs.map W.int) [] ⟨[.val (lay rs), .val (tupI xs), .non], G⟩ =
      some (.ok (.own (.lst (xs.map fun (c : Int) => W.bl (decide (0 ≤ c) && decide (c < rs.length))))), ⟨[.val (lay rs), .val (tupI xs), .non], G⟩) := by
    rw [lc_all (by exact trivial) (fun (c : Int) => W.bl (decide (0 ≤ c) && decide (c < rs.length)))]
    · simp
    · intro c hc
      refine ⟨⟨[.val (lay rs), .val (tupI xs), .val (.int c)], G⟩, by simp, ⟨[.val (lay rs), .val (tupI xs), .val (.int c)], G⟩, ?_, by simp⟩
      by_cases h0 : 0 ≤ c <;> simp [h0, x_len, lk]
    · show 0 + _ ≤ 16777216; omega
  have fa : fAll [.lst (xs.map fun (c : Int) => W.bl (decide (0 ≤ c) && decide (c < rs.length)))] = some (.imm (.bl (xs.all fun (c : Int) => decide (0 ≤ c) && decide (c < rs.length)))) := by
    have : blsOf (xs.map fun (c : Int) => W.bl (decide (0 ≤ c) && decide (c < rs.length))) = some (xs.map fun (c : Int) => decide (0 ≤ c) && decide (c < rs.length)) := by
      clear hl dd ln lc
      induction xs with
      | nil => rfl
      | cons x xs ih => simp [blsOf, ih]
    unfold fAll
    simp [this]
  unfold isPathB
  by_cases h1 : 3 ≤ xs.length
  · have h1' : ¬ ((xs.length : Int) < 3) := by omega
    by_cases h2 : xs.Nodup
    · have h2' : ¬ ((ddN xs : Int) < xs.length) := fun z => (dd_lt.mp (by omega)) h2
      simp [b_is_path, ln, h1', dd, h2', lc, fa, h1, h2]
    · have h2' : ((ddN xs : Int) < xs.length) := by
        have := dd_lt.mpr h2
        omega
      simp [b_is_path, ln, h1', dd, h2', h2]
  · have h1' : ((xs.length : Int) < 3) := by omega
    simp [b_is_path, ln, h1', h1]
def lastB (rs : List (List Int)) (ps : List Nat) (t : Nat) : Nat → Bool := keyB rs (ps.getD (ps.length - 1) 0) t []
def midB (rs : List (List Int)) (ps : List Nat) (t : Nat) (i : Nat) : Nat → Bool := keyB rs (ps.getD i 0) (ps.getD (i + 1) 0) (ps.drop (i + 2) ++ [t])
def firstB (rs : List (List Int)) (ps : List Nat) : Nat → Bool := keyB rs (ps.getD 0 0) (ps.getD 1 0) (ps.drop 2)
def earlyB (rs : List (List Int)) (ps : List Nat) (t : Nat) : Nat → Bool := keyB rs (ps.getD 0 0) t (ps.drop 2)
def bothB (rs : List (List Int)) (ps : List Nat) (t : Nat) : Nat → Bool := fun k => firstB rs ps k && earlyB rs ps t k
def midsB (rs : List (List Int)) (ps : List Nat) (t : Nat) : List (Nat → Bool) := (List.range (ps.length - 2)).map fun i => midB rs ps t (i + 1)
def isChain (rs : List (List Int)) (ps : List Nat) (t : Nat) : Bool := !decide (fk (firstB rs ps) = []) && (!decide (fk (earlyB rs ps t) = []) && ((midsB rs ps t ++ [lastB rs ps t]).all fun f => !decide (fk f = [])))
def headKeys (rs : List (List Int)) (ps : List Nat) (t : Nat) : List Nat := if fk (bothB rs ps t) = [] then [low (earlyB rs ps t), low (firstB rs ps)] else [low (bothB rs ps t)]
def chainKeys (rs : List (List Int)) (ps : List Nat) (t : Nat) : List Nat := headKeys rs ps t ++ (midsB rs ps t ++ [lastB rs ps t]).map low
theorem getD_at {α : Type} {l : List α} {i : Nat} {d : α} (h : i < l.length) : l.getD i d = l[i] := by
  rw [List.getD_eq_getElem?_getD, List.getElem?_eq_getElem h]
  rfl
theorem rev_range {α : Type} (f : Nat → α) (n : Nat) : ((List.range n).map fun i => f (n - 1 - i)).reverse = (List.range n).map f := by
  apply List.ext_getElem
  · simp
  · intro i h1 h2
    simp at h1
    simp only [List.getElem_reverse, List.getElem_map, List.getElem_range, List.length_map, List.length_range]
    congr 1
    omega
end Z
set_option linter.all false
set_option maxRecDepth 100000
set_option maxHeartbeats 4000000
namespace Z
open PySem PySem.Spec PyProof.Rows L2
theorem mask_at2 {rs : List (List Int)} (hc : ∀ xs ∈ rs, canon xs = xs) {c : Nat} (h : c < rs.length) : atI (rs.map fun xs => W.int (mask xs)) (c : Int) = some (nmW (rowB rs c)) := by
  rw [atI_nat (v := W.int (mask rs[c])) (by simp [h]), mask_nat (hc _ (List.getElem_mem h))]
  unfold nmW rowB
  rw [getD_at h]
theorem nm_zero_W {rs : List (List Int)} : W.int 0 = nmW (unB rs []) := rfl
theorem last_eq {rs : List (List Int)} {a b : Nat} : (fun k => rowB rs a k && rowB rs b k) = keyB rs a b [] := by
  funext k
  simp [keyB, unB]
theorem un_cons {rs : List (List Int)} {a : Nat} {l : List Nat} : (fun k => unB rs l k || rowB rs a k) = unB rs (a :: l) := by
  funext k
  simp [unB, Bool.or_comm]
theorem mid_eq {rs : List (List Int)} {a b t : Nat} {l : List Nat} : (fun k => ((rowB rs a k && rowB rs b k) && !unB rs l k) && !rowB rs t k) = keyB rs a b (l ++ [t]) := by
  funext k
  unfold keyB unB
  rw [List.any_append]
  simp [Bool.and_assoc]
theorem drop_pre {α : Type} {l : List α} {i : Nat} (h : i < l.length) : l.drop i = l[i] :: l.drop (i + 1) := List.drop_eq_getElem_cons h
def chF (rs : List (List Int)) (ps : List Nat) (t : Nat) (j : Nat) : List (Nat → Bool) := lastB rs ps t :: (List.range j).map fun i => midB rs ps t (ps.length - 2 - i)
theorem chF_succ {rs : List (List Int)} {ps : List Nat} {t j : Nat} : chF rs ps t (j + 1) = chF rs ps t j ++ [midB rs ps t (ps.length - 2 - j)] := by
  unfold chF
  rw [List.range_succ, List.map_append]
  rfl
theorem chF_rev {rs : List (List Int)} {ps : List Nat} {t : Nat} : (chF rs ps t (ps.length - 2)).reverse = midsB rs ps t ++ [lastB rs ps t] := by
  unfold chF midsB
  rw [List.reverse_cons]
  congr 1
  rw [← rev_range (fun i => midB rs ps t (i + 1))]
  congr 1
  refine List.map_congr_left fun i hi => ?_
  have := List.mem_range.mp hi
  congr 1
  omega
theorem fIn0 {fs : List (Nat → Bool)} : fIn false (.int 0) (.lst (fs.map nmW)) = some (.imm (.bl (fs.any fun f => decide (fk f = [])))) := by
  have e : fs.map nmW = (fs.map fun f => ((nmask f : Nat) : Int)).map W.int := by
    rw [List.map_map]
    rfl
  rw [e, fIn_lI]
  congr 3
  rw [Bool.eq_iff_iff]
  simp only [Bool.bne_false, decide_eq_true_eq, List.mem_map, List.any_eq_true]
  constructor
  · rintro ⟨f, hf, z⟩
    exact ⟨f, hf, nm_zero.mp (by omega)⟩
  · rintro ⟨f, hf, z⟩
    exact ⟨f, hf, by rw [nm_zero.mpr z]; rfl⟩
section
variable (rs : List (List Int)) (ps : List Nat) (t : Nat)
abbrev ckS (x2 x3 x4 x5 x6 x7 x8 x9 x11 x13 : SV) (G : List Cell) : S := ⟨[.val (lay rs), .val (natI (ps ++ [t])), x2, x3, x4, x5, x6, x7, x8, x9, .val (.int (t : Nat)), x11, .non, x13], G⟩
theorem ck_masks (hc : ∀ xs ∈ rs, canon xs = xs) (hp : ∀ c ∈ ps, c < rs.length) (hl : ps.length ≤ 1000) (G : List Cell) :
    lcL [12] (tgN 12) mYes (mBin fIx (mUn (fFld fn_masks "masks") (mName 0)) (mName 12)) ⟨(ps.map fun (c : Nat) => W.int (c : Int)), none⟩ (ps.map fun (c : Nat) => W.int (c : Int)) [] (ckS rs ps t .non .non .non .non .non .non .non .non (.val (.lst (ps.map fun (c : Nat) => W.int (c : Int)))) .non G) =
      some (.ok (.own (.lst (ps.map fun c => nmW (rowB rs c)))), ckS rs ps t .non .non .non .non .non .non .non .non (.val (.lst (ps.map fun (c : Nat) => W.int (c : Int)))) .non G) := by
  have key := lc_all (s := ckS rs ps t .non .non .non .non .non .non .non .non (.val (.lst (ps.map fun (c : Nat) => W.int (c : Int)))) .non G) (k := ⟨(ps.map fun (c : Nat) => W.int (c : Int)), none⟩) (vs := [12]) (t := tgN 12) (tt := mYes) (me := mBin fIx (mUn (fFld fn_masks "masks") (mName 0)) (mName 12)) (e := fun (c : Nat) => W.int (c : Int)) trivial
    (fun c => nmW (rowB rs c)) ps [] (fun c hm => ⟨⟨[.val (lay rs), .val (natI (ps ++ [t])), .non, .non, .non, .non, .non, .non, .non, .non, .val (.int (t : Nat)), .val (.lst (ps.map fun (c : Nat) => W.int (c : Int))), .val (.int (c : Nat)), .non], G⟩, by simp, ⟨[.val (lay rs), .val (natI (ps ++ [t])), .non, .non, .non, .non, .non, .non, .non, .non, .val (.int (t : Nat)), .val (.lst (ps.map fun (c : Nat) => W.int (c : Int))), .val (.int (c : Nat)), .non], G⟩, by simp [mask_at2 hc (hp c hm)], by simp⟩) (by show 0 + _ ≤ 16777216; omega)
  rw [List.nil_append] at key
  exact key
theorem mk_at {i : Nat} (h : i < ps.length) : atI (ps.map fun c => nmW (rowB rs c)) (i : Int) = some (nmW (rowB rs (ps.getD i 0))) := by
  rw [atI_nat (v := nmW (rowB rs ps[i])) (by simp [h]), getD_at h]
theorem atI_last {α : Type} {l : List α} {x : α} (h : l ≠ []) (e : l[l.length - 1]? = some x) : atI l (-1) = some x := by
  have hl : 0 < l.length := List.length_pos_iff.mpr h
  have : ixN l.length (-1) = some (l.length - 1) := by
    unfold ixN
    rw [if_neg (by decide), if_pos (by omega)]
    congr 1
    omega
  unfold atI
  rw [this]
  exact e
noncomputable def ckLoop : Mo Fl := (mFor (mRng3 (mCons (mBin fSub (mCB fLen (mCons (mName 11) mNil)) (mC (.int 2))) (mCons (mC (.int 0)) (mCons (mUn fNeg (mC (.int 1))) mNil)))) (tgN 6) (mSeq (mDrop (mMut .lst fAppend (mName 4) (mCons (mBin fBAnd (mBin fBAnd (mBin fBAnd (mBin fIx (mName 2) (mName 6)) (mBin fIx (mName 2) (mBin fAdd (mName 6) (mC (.int 1))))) (mUn fInv (mName 5))) (mUn fInv (mName 3))) mNil))) (mAug 5 fOrA1 (mBin fIx (mName 2) (mBin fAdd (mName 6) (mC (.int 1)))))))
theorem ck_loop (h2 : 2 ≤ ps.length) (hl : ps.length ≤ 1000) (G : List Cell) (x11 : SV) (hx : x11 = .val (.lst (ps.map fun (c : Nat) => W.int (c : Int)))) : ∃ x6, ckLoop (ckS rs ps t (.own (.lst (ps.map fun c => nmW (rowB rs c)))) (.val (nmW (rowB rs t))) (.own (.lst ((chF rs ps t 0).map nmW))) (.val (nmW (unB rs []))) .non .non .non .non x11 .non G) =
    some (.ok .nx, ckS rs ps t (.own (.lst (ps.map fun c => nmW (rowB rs c)))) (.val (nmW (rowB rs t))) (.own (.lst ((chF rs ps t (ps.length - 2)).map nmW))) (.val (nmW (unB rs (ps.drop 2)))) x6 .non .non .non x11 .non G) := by
  subst hx
  have ln : fLen [.lst (ps.map fun (c : Nat) => W.int (c : Int))] = some (.imm (.int ps.length)) := by simp
  have r1 : Rk ((ps.length : Int) - 2) := by
    have := rk_nat (n := ps.length - 2) (by omega)
    rw [show ((ps.length : Int) - 2) = ((ps.length - 2 : Nat) : Int) by omega]
    exact this
  have r0 : Rk 0 := rk_nat (n := 0) (by omega)
  have tn : ((ps.length : Int) - 2 - 0).toNat = ps.length - 2 := by omega
  generalize hk : (ps.map fun (c : Nat) => W.int (c : Int)) = PW at ln
  unfold ckLoop
  simp [ckS, ln, r1, r0]
  have tn' : ((ps.length : Int) - 2).toNat = ps.length - 2 := by omega
  rw [tn']
  generalize hF : forL _ _ _ _ = F
  obtain ⟨s', rfl, x6, later, fs, rfl, h1, h3⟩ := forL_at hF (fun j s => ∃ x6 later fs, s = ckS rs ps t (.own (.lst (ps.map fun c => nmW (rowB rs c)))) (.val (nmW (rowB rs t))) (.own (.lst (fs.map nmW))) (.val (nmW later)) x6 .non .non .non (.val (.lst PW)) .non G ∧ fs = chF rs ps t j ∧ later = unB rs (ps.drop (ps.length - j))) ⟨.non, unB rs [], chF rs ps t 0, rfl, rfl, by simp⟩ (by
    rintro j hj s ⟨x6, later, fs, rfl, h1, h3⟩
    have hj : j < ps.length - 2 := by simpa [dnW] using hj
    have ei : (dnW ((ps.length : Int) - 2) (ps.length - 2))[j]'(by simpa [dnW] using hj) = W.int ((ps.length - 2 - j : Nat) : Int) := by
      simp [dnW]
      omega
    rw [ei]
    have a1 := mk_at rs ps (i := ps.length - 2 - j) (by omega)
    have a2 := mk_at rs ps (i := ps.length - 2 - j + 1) (by omega)
    have a2 : atI (ps.map fun c => nmW (rowB rs c)) (((ps.length - 2 - j : Nat) : Int) + 1) = _ := a2
    have small : fs.length < sz := by
      rw [h1]
      unfold chF
      simp
      show _ < 16777216
      omega
    have e1 : (fun k => ((rowB rs (ps.getD (ps.length - 2 - j) 0) k && rowB rs (ps.getD (ps.length - 2 - j + 1) 0) k) && !later k) && !rowB rs t k) = midB rs ps t (ps.length - 2 - j) := by
      rw [h3, mid_eq]
      unfold midB
      congr 3
      omega
    have e2 : (fun k => later k || rowB rs (ps.getD (ps.length - 2 - j + 1) 0) k) = unB rs (ps.drop (ps.length - (j + 1))) := by
      rw [h3, un_cons]
      congr 1
      have : ps.length - (j + 1) < ps.length := by omega
      rw [drop_pre this, getD_at (by omega)]
      congr 2 <;> omega
    refine ⟨ckS rs ps t (.own (.lst (ps.map fun c => nmW (rowB rs c)))) (.val (nmW (rowB rs t))) (.own (.lst ((fs ++ [midB rs ps t (ps.length - 2 - j)]).map nmW))) (.val (nmW (unB rs (ps.drop (ps.length - (j + 1)))))) (.val (.int ((ps.length - 2 - j : Nat) : Int))) .non .non .non (.val (.lst PW)) .non G, ?_, _, _, _, rfl, by rw [h1, ← chF_succ], rfl⟩
    rw [← e1, ← e2]
    generalize ps.length - 2 - j = at_ at a1 a2
    generalize rowB rs (ps.getD at_ 0) = A at a1
    generalize rowB rs (ps.getD (at_ + 1) 0) = B at a2
    simp [ckS, a1, a2, fBAnd_nm, fInv_nm, fBAndN_nm, fOr_nm, fAppend, small])
  refine ⟨x6, ?_⟩
  have hd : (dnW ((ps.length : Int) - 2) (ps.length - 2)).length = ps.length - 2 := by simp [dnW]
  rw [hd] at h1 h3
  rw [h1, h3]
  have : ps.length - (ps.length - 2) = 2 := by omega
  rw [this]
end
end Z
set_option linter.all false
set_option maxRecDepth 100000
set_option maxHeartbeats 4000000
namespace Z
open PySem PySem.Spec PyProof.Rows L2
theorem seqt {a b : Mo Fl} {s s' : S} (h : a s = some (.ok .nx, s')) : mSeq a b s = b s' := bnd_at h
theorem x_keys_bad (rs : List (List Int)) (hn : rs.length ≤ 1000) (xs : List Int) (hl : xs.length ≤ 60) (hp : isPathB rs.length xs = false) (G : List Cell) : m_chain_keys [lay rs, tupI xs] G = some (.ok (.val .non), G) := by
  unfold m_chain_keys
  rw [fnM_o]
  have e := x_is_path rs hn xs hl G
  rw [hp] at e
  rw [chain_keys_cut]
  simp [chain_keys_t0, chain_keys_s0, e]
def numsW (l : List Nat) : List W := l.map fun (k : Nat) => W.int (k : Int)
theorem low_map (fs : List (Nat → Bool)) (h : ∀ f ∈ fs, fk f ≠ []) {st : SV → S} {G : List Cell} (hst : ∀ v, (st v).G = G) (ht : ∀ v, tgN 13 v (st .non) = some (.ok (), st (.val v))) (hw : ∀ v, wipeS [13] (st v) = st .non) (hy : ∀ v, mYes (st v) = some (.ok true, st v))
    (he : ∀ f, m_lowest [nmW f] G = some (.ok (.val (.int (low f : Nat))), G) → (bnd (mCall 1 m_lowest (mCons (mName 13) mNil)) fun y => freeze (settle y)) (st (.val (nmW f))) = some (.ok (.int (low f : Nat)), st (.val (nmW f)))) (hl : fs.length ≤ 1000) :
    lcL [13] (tgN 13) mYes (mCall 1 m_lowest (mCons (mName 13) mNil)) ⟨fs.map nmW, none⟩ (fs.map nmW) [] (st .non) = some (.ok (.own (.lst (numsW (fs.map low)))), st .non) := by
  have key := lc_all (s := st .non) (k := ⟨fs.map nmW, none⟩) (vs := [13]) (t := tgN 13) (tt := mYes) (me := mCall 1 m_lowest (mCons (mName 13) mNil)) (e := nmW) trivial (fun f => W.int (low f : Nat)) fs [] (fun f m => ⟨st (.val (nmW f)), by rw [bnd_at (ht _)]; exact hy _, st (.val (nmW f)), he f (x_lowest (h f m) G), hw _⟩) (by show 0 + _ ≤ 16777216; omega)
  rw [List.nil_append] at key
  unfold numsW
  rw [List.map_map]
  exact key
section
variable (rs : List (List Int)) (ps : List Nat) (t : Nat)
theorem path_in {n : Nat} {ps : List Nat} {t : Nat} (hp : isPathB n ((ps ++ [t]).map fun (c : Nat) => (c : Int)) = true) : 2 ≤ ps.length ∧ (ps ++ [t]).Nodup ∧ (∀ c ∈ ps, c < n) ∧ t < n := by
  unfold isPathB at hp
  simp only [Bool.and_eq_true, decide_eq_true_eq, List.all_eq_true, List.length_map, List.length_append, List.length_singleton] at hp
  obtain ⟨h1, h2, h3⟩ := hp
  have h3' : ∀ c ∈ ps ++ [t], c < n := fun c hc => by
    have := (h3 (c : Int) (List.mem_map.mpr ⟨c, hc, rfl⟩)).2
    omega
  refine ⟨by omega, ?_, fun c hc => h3' c (by simp [hc]), h3' t (by simp)⟩
  unfold List.Nodup at h2 ⊢
  rw [List.pairwise_map] at h2
  exact h2.imp fun h z => h (by omega)
theorem ck_start (hc : ∀ xs ∈ rs, canon xs = xs) (h6 : rs.length ≤ 6) (hl : ps.length ≤ 50) (hp : isPathB rs.length ((ps ++ [t]).map fun (c : Nat) => (c : Int)) = true) (G : List Cell) : ∃ x6, chain_keys_t0 ⟨[.val (lay rs), .val (natI (ps ++ [t])), .non, .non, .non, .non, .non, .non, .non, .non, .non, .non, .non, .non], G⟩ =
    chain_keys_t7 (ckS rs ps t (.own (.lst (ps.map fun c => nmW (rowB rs c)))) (.val (nmW (rowB rs t))) (.own (.lst ((chF rs ps t (ps.length - 2)).map nmW))) (.val (nmW (unB rs (ps.drop 2)))) x6 .non .non .non (.val (.lst (numsW ps))) .non G) := by
  obtain ⟨h2, hnd, hps, ht⟩ := path_in hp
  obtain ⟨x6, e6⟩ := ck_loop rs ps t h2 (by omega) G _ rfl
  refine ⟨x6, ?_⟩
  have e0 := x_is_path rs (by omega) ((ps ++ [t]).map fun (c : Nat) => (c : Int)) (by simp; omega) G
  rw [hp] at e0
  have wn : tupI ((ps ++ [t]).map fun (c : Nat) => (c : Int)) = natI (ps ++ [t]) := rfl
  rw [wn] at e0
  have ln : ∀ r, look (.val (natI (ps ++ [t]))) ⟨r, G⟩ = some (.ok (natI (ps ++ [t])), ⟨r, G⟩) := fun _ => rfl
  have s0 : chain_keys_s0 ⟨[.val (lay rs), .val (natI (ps ++ [t])), .non, .non, .non, .non, .non, .non, .non, .non, .non, .non, .non, .non], G⟩ = some (.ok .nx, ⟨[.val (lay rs), .val (natI (ps ++ [t])), .non, .non, .non, .non, .non, .non, .non, .non, .non, .non, .non, .non], G⟩) := by
    simp [chain_keys_s0, e0]
  have wt : natI (ps ++ [t]) = .tup (numsW ps ++ [.int (t : Int)]) := by
    unfold natI tupI numsW
    simp
  have s1 : chain_keys_s1 ⟨[.val (lay rs), .val (natI (ps ++ [t])), .non, .non, .non, .non, .non, .non, .non, .non, .non, .non, .non, .non], G⟩ = some (.ok .nx, ckS rs ps t .non .non .non .non .non .non .non .non (.own (.lst (numsW ps))) .non G) := by
    simp only [ckS]
    rw [wt]
    simp [chain_keys_s1]
  have lm := ck_masks rs ps t hc hps (by omega) G
  have s2 : chain_keys_s2 (ckS rs ps t .non .non .non .non .non .non .non .non (.own (.lst (numsW ps))) .non G) = some (.ok .nx, ckS rs ps t (.own (.lst (ps.map fun c => nmW (rowB rs c)))) .non .non .non .non .non .non .non (.val (.lst (numsW ps))) .non G) := by
    have lm : lcL [12] (tgN 12) mYes (mBin fIx (mUn (fFld fn_masks "masks") (mName 0)) (mName 12)) ⟨numsW ps, none⟩ (numsW ps) [] (ckS rs ps t .non .non .non .non .non .non .non .non (.val (.lst (numsW ps))) .non G) = some (.ok (.own (.lst (ps.map fun c => nmW (rowB rs c)))), ckS rs ps t .non .non .non .non .non .non .non .non (.val (.lst (numsW ps))) .non G) := lm
    simp only [ckS] at lm ⊢
    generalize numsW ps = NW at lm ⊢
    simp [chain_keys_s2, lm]
  have mt := mask_at2 hc ht
  have s3 : chain_keys_s3 (ckS rs ps t (.own (.lst (ps.map fun c => nmW (rowB rs c)))) .non .non .non .non .non .non .non (.val (.lst (numsW ps))) .non G) = some (.ok .nx, ckS rs ps t (.own (.lst (ps.map fun c => nmW (rowB rs c)))) (.val (nmW (rowB rs t))) .non .non .non .non .non .non (.val (.lst (numsW ps))) .non G) := by
    simp only [ckS]
    simp [chain_keys_s3, mt]
  have al : atI (ps.map fun c => nmW (rowB rs c)) (-1) = some (nmW (rowB rs (ps.getD (ps.length - 1) 0))) := by
    refine atI_last (by intro z; rw [List.map_eq_nil_iff] at z; rw [z] at h2; simp at h2) ?_
    rw [List.length_map, List.getElem?_map, List.getElem?_eq_getElem (by omega), getD_at (by omega)]
    rfl
  have z1 : 1 ≤ sz := by decide
  have el : nmW (fun k => rowB rs (ps.getD (ps.length - 1) 0) k && rowB rs t k) = nmW (lastB rs ps t) := by
    rw [last_eq]
    rfl
  have s4 : chain_keys_s4 (ckS rs ps t (.own (.lst (ps.map fun c => nmW (rowB rs c)))) (.val (nmW (rowB rs t))) .non .non .non .non .non .non (.val (.lst (numsW ps))) .non G) = some (.ok .nx, ckS rs ps t (.own (.lst (ps.map fun c => nmW (rowB rs c)))) (.val (nmW (rowB rs t))) (.own (.lst ((chF rs ps t 0).map nmW))) .non .non .non .non .non (.val (.lst (numsW ps))) .non G) := by
    simp only [ckS]
    have : (chF rs ps t 0).map nmW = [nmW (lastB rs ps t)] := rfl
    rw [this, ← el]
    generalize rowB rs (ps.getD (ps.length - 1) 0) = A at al
    simp [chain_keys_s4, al, fBAnd_nm, z1]
  have s5 : chain_keys_s5 (ckS rs ps t (.own (.lst (ps.map fun c => nmW (rowB rs c)))) (.val (nmW (rowB rs t))) (.own (.lst ((chF rs ps t 0).map nmW))) .non .non .non .non .non (.val (.lst (numsW ps))) .non G) = some (.ok .nx, ckS rs ps t (.own (.lst (ps.map fun c => nmW (rowB rs c)))) (.val (nmW (rowB rs t))) (.own (.lst ((chF rs ps t 0).map nmW))) (.val (nmW (unB rs []))) .non .non .non .non (.val (.lst (numsW ps))) .non G) := by
    simp only [ckS]
    rw [← nm_zero_W (rs := rs)]
    simp [chain_keys_s5]
  have s6 : chain_keys_s6 (ckS rs ps t (.own (.lst (ps.map fun c => nmW (rowB rs c)))) (.val (nmW (rowB rs t))) (.own (.lst ((chF rs ps t 0).map nmW))) (.val (nmW (unB rs []))) .non .non .non .non (.val (.lst (numsW ps))) .non G) = _ := e6
  unfold chain_keys_t0
  rw [seqt s0]
  unfold chain_keys_t1
  rw [seqt s1]
  unfold chain_keys_t2
  rw [seqt s2]
  unfold chain_keys_t3
  rw [seqt s3]
  unfold chain_keys_t4
  rw [seqt s4]
  unfold chain_keys_t5
  rw [seqt s5]
  unfold chain_keys_t6
  rw [seqt s6]
  rfl
theorem any_all {fs : List (Nat → Bool)} : (fs.any fun f => decide (fk f = [])) = !(fs.all fun f => !decide (fk f = [])) := by
  induction fs with
  | nil => rfl
  | cons f fs ih => simp only [List.any_cons, List.all_cons, ih]; cases decide (fk f = []) <;> rfl
theorem x_keys (hc : ∀ xs ∈ rs, canon xs = xs) (h6 : rs.length ≤ 6) (hl : ps.length ≤ 50) (hp : isPathB rs.length ((ps ++ [t]).map fun (c : Nat) => (c : Int)) = true) (G : List Cell) : m_chain_keys [lay rs, natI (ps ++ [t])] G =
    some (.ok (if isChain rs ps t = true then .own (.lst (numsW (chainKeys rs ps t))) else .val .non), G) := by
  unfold m_chain_keys
  rw [fnM_o, chain_keys_cut]
  show outF (chain_keys_t0 ⟨[.val (lay rs), .val (natI (ps ++ [t])), .non, .non, .non, .non, .non, .non, .non, .non, .non, .non, .non, .non], G⟩) = _
  obtain ⟨x6, e⟩ := ck_start rs ps t hc h6 hl hp G
  rw [e]
  obtain ⟨h2, hnd, hps, ht⟩ := path_in hp
  have a0 := mk_at rs ps (i := 0) (by omega)
  have a1 := mk_at rs ps (i := 1) (by omega)
  have a0 : atI (ps.map fun c => nmW (rowB rs c)) 0 = _ := a0
  have a1 : atI (ps.map fun c => nmW (rowB rs c)) 1 = _ := a1
  have s7 : chain_keys_s7 (ckS rs ps t (.own (.lst (ps.map fun c => nmW (rowB rs c)))) (.val (nmW (rowB rs t))) (.own (.lst ((chF rs ps t (ps.length - 2)).map nmW))) (.val (nmW (unB rs (ps.drop 2)))) x6 .non .non .non (.val (.lst (numsW ps))) .non G) =
      some (.ok .nx, ckS rs ps t (.own (.lst (ps.map fun c => nmW (rowB rs c)))) (.val (nmW (rowB rs t))) (.own (.lst ((chF rs ps t (ps.length - 2)).map nmW))) (.val (nmW (unB rs (ps.drop 2)))) x6 (.val (nmW (firstB rs ps))) .non .non (.val (.lst (numsW ps))) .non G) := by
    rw [show firstB rs ps = fun k => (rowB rs (ps.getD 0 0) k && rowB rs (ps.getD 1 0) k) && !unB rs (ps.drop 2) k from rfl]
    simp only [ckS]
    generalize rowB rs (ps.getD 0 0) = A at a0 ⊢
    generalize rowB rs (ps.getD 1 0) = B at a1 ⊢
    simp [chain_keys_s7, a0, a1, fBAnd_nm, fInv_nm, fBAndN_nm]
  have s8 : chain_keys_s8 (ckS rs ps t (.own (.lst (ps.map fun c => nmW (rowB rs c)))) (.val (nmW (rowB rs t))) (.own (.lst ((chF rs ps t (ps.length - 2)).map nmW))) (.val (nmW (unB rs (ps.drop 2)))) x6 (.val (nmW (firstB rs ps))) .non .non (.val (.lst (numsW ps))) .non G) =
      some (.ok .nx, ckS rs ps t (.own (.lst (ps.map fun c => nmW (rowB rs c)))) (.val (nmW (rowB rs t))) (.own (.lst ((chF rs ps t (ps.length - 2)).map nmW))) (.val (nmW (unB rs (ps.drop 2)))) x6 (.val (nmW (firstB rs ps))) (.val (nmW (earlyB rs ps t))) .non (.val (.lst (numsW ps))) .non G) := by
    rw [show earlyB rs ps t = fun k => (rowB rs (ps.getD 0 0) k && rowB rs t k) && !unB rs (ps.drop 2) k from rfl]
    simp only [ckS]
    generalize rowB rs (ps.getD 0 0) = A at a0 ⊢
    simp [chain_keys_s8, a0, fBAnd_nm, fInv_nm, fBAndN_nm]
  unfold chain_keys_t7
  rw [seqt s7]
  unfold chain_keys_t8
  rw [seqt s8]
  have lenC : (chF rs ps t (ps.length - 2)).length = ps.length - 2 + 1 := by simp [chF]
  have rv := chF_rev (rs := rs) (ps := ps) (t := t)
  have anyR : ((chF rs ps t (ps.length - 2)).any fun f => decide (fk f = [])) = !((midsB rs ps t ++ [lastB rs ps t]).all fun f => !decide (fk f = [])) := by
    rw [← any_all, ← rv, List.any_reverse]
  have i0 := fIn0 (fs := chF rs ps t (ps.length - 2))
  rw [anyR] at i0
  have rvW : ((chF rs ps t (ps.length - 2)).map nmW).reverse = (midsB rs ps t ++ [lastB rs ps t]).map nmW := by
    rw [← List.map_reverse, rv]
  have cks : (chainKeys rs ps t) = headKeys rs ps t ++ (midsB rs ps t ++ [lastB rs ps t]).map low := rfl
  have ml : (midsB rs ps t ++ [lastB rs ps t]).length ≤ 50 := by
    rw [← rv, List.length_reverse, lenC]; omega
  unfold isChain
  generalize (chF rs ps t (ps.length - 2)).map nmW = CW at i0 rvW ⊢
  generalize midsB rs ps t ++ [lastB rs ps t] = FS at i0 rvW ml cks ⊢
  by_cases q1 : fk (firstB rs ps) = []
  · simp [chain_keys_t9, chain_keys_s9, ckS, fEq0_nm, q1, outF]
  by_cases q2 : fk (earlyB rs ps t) = []
  · simp [chain_keys_t9, chain_keys_s9, ckS, fEq0_nm, q1, q2, outF]
  cases q3 : FS.all fun f => !decide (fk f = []) with
  | false =>
    rw [q3] at i0
    simp [chain_keys_t9, chain_keys_s9, ckS, fEq0_nm, q1, q2, i0, outF]
  | true =>
    rw [q3] at i0
    have hk : ∀ f ∈ FS, fk f ≠ [] := fun f hf => by
      have := List.all_eq_true.mp q3 f hf
      simpa using this
    have w1 := x_lowest q1 G
    have w2 := x_lowest q2 G
    have z1 : 1 ≤ sz := by decide
    have z2 : 2 ≤ sz := by decide
    have lm := fun x9 => low_map FS hk (st := fun v => ckS rs ps t (.own (.lst (ps.map fun c => nmW (rowB rs c)))) (.val (nmW (rowB rs t))) (.own (.lst CW)) (.val (nmW (unB rs (ps.drop 2)))) x6 (.val (nmW (firstB rs ps))) (.val (nmW (earlyB rs ps t))) x9 (.val (.lst (numsW ps))) v G) (G := G) (fun _ => rfl) (fun v => by simp [ckS]) (fun v => by simp [ckS]) (fun v => by simp) (fun f hf => by simp [ckS, hf]) (by omega)
    have add1 : ∀ a b : Nat, fAdd (.lst [.int (a : Int), .int (b : Int)]) (.lst (numsW (FS.map low))) = some (.newl (numsW ([a, b] ++ FS.map low))) := fun a b => by
      rw [fAdd_ll (by simp [numsW]; show _ ≤ 16777216; omega)]
      rfl
    have add2 : ∀ a : Nat, fAdd (.lst [.int (a : Int)]) (.lst (numsW (FS.map low))) = some (.newl (numsW ([a] ++ FS.map low))) := fun a => by
      rw [fAdd_ll (by simp [numsW]; show _ ≤ 16777216; omega)]
      rfl
    have bb : fBAnd (nmW (firstB rs ps)) (nmW (earlyB rs ps t)) = some (.imm (nmW (bothB rs ps t))) := fBAnd_nm
    rw [cks]
    unfold headKeys
    simp only [ckS] at lm
    by_cases q4 : fk (bothB rs ps t) = []
    · rw [if_pos q4]
      have go : chain_keys_t9 (ckS rs ps t (.own (.lst (ps.map fun c => nmW (rowB rs c)))) (.val (nmW (rowB rs t))) (.own (.lst CW)) (.val (nmW (unB rs (ps.drop 2)))) x6 (.val (nmW (firstB rs ps))) (.val (nmW (earlyB rs ps t))) .non (.val (.lst (numsW ps))) .non G) =
          some (.ok (.rt (.own (.lst (numsW ([low (earlyB rs ps t), low (firstB rs ps)] ++ FS.map low))))), ckS rs ps t (.own (.lst (ps.map fun c => nmW (rowB rs c)))) (.val (nmW (rowB rs t))) (.own (.lst CW)) (.val (nmW (unB rs (ps.drop 2)))) x6 (.val (nmW (firstB rs ps))) (.val (nmW (earlyB rs ps t))) (.own (.lst [.int (low (earlyB rs ps t) : Nat), .int (low (firstB rs ps) : Nat)])) (.val (.lst (numsW ps))) .non G) := by
        simp [chain_keys_t9, chain_keys_s9, chain_keys_t10, chain_keys_s10, chain_keys_t11, chain_keys_s11, chain_keys_t12, chain_keys_s12, ckS, fEq0_nm, q1, q2, i0, w1, w2, z2, bb, fNe0_nm, q4, rvW, lm, add1]
      rw [go]
      simp [outF, q1, q2]
    · rw [if_neg q4]
      have w3 := x_lowest q4 G
      have go : chain_keys_t9 (ckS rs ps t (.own (.lst (ps.map fun c => nmW (rowB rs c)))) (.val (nmW (rowB rs t))) (.own (.lst CW)) (.val (nmW (unB rs (ps.drop 2)))) x6 (.val (nmW (firstB rs ps))) (.val (nmW (earlyB rs ps t))) .non (.val (.lst (numsW ps))) .non G) =
          some (.ok (.rt (.own (.lst (numsW ([low (bothB rs ps t)] ++ FS.map low))))), ckS rs ps t (.own (.lst (ps.map fun c => nmW (rowB rs c)))) (.val (nmW (rowB rs t))) (.own (.lst CW)) (.val (nmW (unB rs (ps.drop 2)))) x6 (.val (nmW (firstB rs ps))) (.val (nmW (earlyB rs ps t))) (.own (.lst [.int (low (bothB rs ps t) : Nat)])) (.val (.lst (numsW ps))) .non G) := by
        simp [chain_keys_t9, chain_keys_s9, chain_keys_t10, chain_keys_s10, chain_keys_t11, chain_keys_s11, chain_keys_t12, chain_keys_s12, ckS, fEq0_nm, q1, q2, i0, w1, w2, w3, z1, z2, bb, fNe0_nm, q4, rvW, lm, add2]
      rw [go]
      simp [outF, q1, q2]
end
end Z
set_option linter.all false
set_option maxRecDepth 100000
set_option maxHeartbeats 4000000
namespace Z
open PySem PySem.Spec PyProof.Rows L2
def PW : Bool ⊕ Int → W
  | .inl true => .str "write"
  | .inl false => .str "take"
  | .inr i => .int i
theorem numsW_at {l : List Nat} {i : Nat} (h : i < l.length) : atI (numsW l) (i : Int) = some (.int (l.getD i 0 : Nat)) := by
  unfold numsW
  rw [atI_nat (v := W.int (l[i] : Nat)) (by simp [h]), getD_at h]
theorem natI_e (l : List Nat) : natI l = .tup (numsW l) := by
  unfold natI tupI numsW
  rw [List.map_map]
  rfl
theorem numsW_len (l : List Nat) : (numsW l).length = l.length := by simp [numsW]
end Z
set_option linter.all false
set_option maxRecDepth 100000
set_option maxHeartbeats 4000000
namespace Z
open PySem PySem.Spec PyProof.Rows L2
theorem addTup {a b : List W} (h : a.length + b.length ≤ sz) (s : S) : liftO (fAdd (.tup a) (.tup b)) s = some (.ok (.val (.tup (a ++ b))), s) := by
  have e : fAdd (.tup a) (.tup b) = fAddT (.tup a) (.tup b) := by
    unfold fAdd orf
    rw [show fI (fun i j => i + j) (.tup a) (.tup b) = none from rfl]
    simp only []
    rw [show fAddS (.tup a) (.tup b) = none from rfl]
    simp only []
    rw [show fAddL (.tup a) (.tup b) = none from rfl]
  rw [e]
  cases a with
  | nil =>
    have : fAddT (.tup []) (.tup b) = some (.imm (.tup b)) := if_pos (by simpa using h)
    rw [this]
    rfl
  | cons x a =>
    cases b with
    | nil =>
      have : fAddT (.tup (x :: a)) (.tup []) = some (.imm (.tup (x :: a))) := if_pos (by simpa using h)
      rw [this, List.append_nil]
      rfl
    | cons y b =>
      have : fAddT (.tup (x :: a)) (.tup (y :: b)) = some (.newt (x :: a ++ y :: b)) := if_pos h
      rw [this]
      rfl
theorem slT {ws : List W} {lo hi : Option Int} (s : S) : liftO (fSl (.tup ws) lo hi) s = some (.ok (.val (.tup (cutW ws lo hi))), s) := by
  show liftO (if HT.sIx ws.length 0 lo = 0 ∧ HT.sIx ws.length ws.length hi = ws.length then some (.imm (.tup ws)) else some (.newt (cutW ws lo hi))) s = _
  by_cases q : HT.sIx ws.length 0 lo = 0 ∧ HT.sIx ws.length ws.length hi = ws.length
  · rw [if_pos q]
    have : cutW ws lo hi = ws := by
      unfold cutW
      rw [q.1, q.2]
      simp
    rw [this]
    rfl
  · rw [if_neg q]
    rfl
theorem cut_from {α : Type} (ws : List α) (k : Nat) : cutW ws (some (k : Int)) none = ws.drop k := by
  unfold cutW
  rw [HT.sIx_nat, HT.sIx_none]
  rcases Nat.le_total k ws.length with h | h
  · rw [Nat.min_eq_left h]
    exact List.take_of_length_le (by simp)
  · rw [Nat.min_eq_right h, List.drop_eq_nil_of_le (Nat.le_refl _), List.drop_eq_nil_of_le h]
    simp
theorem cut_last {α : Type} (ws : List α) : cutW ws none (some (-1)) = ws.dropLast := by
  unfold cutW
  have : HT.sIx ws.length ws.length (some (-1)) = ws.length - 1 := by
    show (if (-1 : Int) < 0 then ((-1 : Int) + (ws.length : Int)).toNat else min (-1 : Int).toNat ws.length) = _
    rw [if_pos (show (-1 : Int) < 0 by decide)]
    omega
  rw [this, HT.sIx_none, List.drop_zero, Nat.sub_zero, List.dropLast_eq_take]
theorem nums_int (l : List Nat) : numsW l = (l.map fun (c : Nat) => (c : Int)).map W.int := by
  unfold numsW
  rw [List.map_map]
  rfl
theorem fEqD_nums (l : List Nat) : fEqD (.lst (numsW l)) (.lst []) = some (.imm (.bl (decide (l = [])))) := by
  have := fEqD_emb (emb_lst emb_int) (by decide) (l.map fun (c : Nat) => (c : Int)) []
  rw [nums_int]
  refine Eq.trans this ?_
  congr 3
  rw [decide_eq_decide]
  simp
theorem fNeD_nums (l : List Nat) : fNeD (.lst (numsW l)) (.lst []) = some (.imm (.bl (!decide (l = [])))) := by
  have := fNeD_emb (emb_lst emb_int) (by decide) (l.map fun (c : Nat) => (c : Int)) []
  rw [nums_int]
  refine Eq.trans this ?_
  congr 3
  rw [← decide_not, decide_eq_decide]
  simp
theorem numsW_app (a b : List Nat) : numsW (a ++ b) = numsW a ++ numsW b := by simp [numsW]
theorem numsW_drop (l : List Nat) (k : Nat) : (numsW l).drop k = numsW (l.drop k) := by simp [numsW, List.map_drop]
theorem numsW_dropLast (l : List Nat) : (numsW l).dropLast = numsW l.dropLast := by simp [numsW, List.map_dropLast]
theorem row_keys {rs : List (List Int)} (hc : ∀ xs ∈ rs, canon xs = xs) {a : Nat} (h : a < rs.length) (q : Int → Bool) : (rs[a].filter q).map W.int = numsW (fk fun k => rowB rs a k && q (k : Int)) := by
  have e := hc _ (List.getElem_mem h)
  unfold rowB
  rw [getD_at h]
  generalize rs[a] = xs at e ⊢
  rw [← e]
  unfold canon
  rw [List.filter_map, List.filter_filter]
  unfold numsW fk
  rw [List.map_map]
  have e2 : ((List.range 8).filter fun (k : Nat) => (q ∘ fun (k : Nat) => (k : Int)) k && decide ((k : Int) ∈ xs)) = (List.range 8).filter fun (k : Nat) => decide ((k : Int) ∈ canon xs) && q (k : Int) := by
    rw [e]
    refine List.filter_congr fun k _ => ?_
    show (q (k : Int) && _) = _
    rw [Bool.and_comm]
  refine Eq.trans (congrArg _ e2) ?_
  rfl
theorem fAny_bls {γ : Type} (f : γ → Bool) (xs : List γ) : fAny [.lst (xs.map fun x => W.bl (f x))] = some (.imm (.bl (xs.any f))) := by
  have : blsOf (xs.map fun x => W.bl (f x)) = some (xs.map f) := by
    induction xs with
    | nil => rfl
    | cons x xs ih => simp [blsOf, ih]
  unfold fAny
  simp [this]
theorem x_keys_of (rs : List (List Int)) (hc : ∀ xs ∈ rs, canon xs = xs) (a b : Nat) (ha : a < rs.length) (hb : b < rs.length) (l : List Nat) (hl : ∀ c ∈ l, c < rs.length) (hz : l.length ≤ 1000) (G : List Cell) :
    m__law_keys_of [.lst (rs.map lstI), .int (a : Nat), .int (b : Nat), .tup (numsW l)] G = some (.ok (.own (.lst (numsW (fk (keyB rs a b l))))), G) := by
  unfold m__law_keys_of
  rw [fnM_e]
  have at_ : ∀ c : Nat, c < rs.length → atI (rs.map lstI) (c : Int) = some (lstI (rs.getD c [])) := fun c h => by
    rw [atI_nat (v := lstI rs[c]) (by simp [h]), getD_at h]
  have aa := at_ a ha
  have ab := at_ b hb
  have fi : ∀ (k : Int) xs, fIn false (.int k) (lstI xs) = some (.imm (.bl (decide (k ∈ xs) != false))) := fun k xs => fIn_lI false k xs
  let q : Int → Bool := fun k => decide (k ∈ rs.getD b []) && !(l.any fun c => decide (k ∈ rs.getD c []))
  have inner : ∀ k : Int, lcL [5] (tgN 5) mYes (mBin (fIn false) (mName 4) (mBin fIx (mName 0) (mName 5))) ⟨numsW l, none⟩ (numsW l) [] ⟨[.val (.lst (rs.map lstI)), .val (.int (a : Nat)), .val (.int (b : Nat)), .val (.tup (numsW l)), .val (.int k), .non], G⟩ =
      some (.ok (.own (.lst (l.map fun c => W.bl (decide (k ∈ rs.getD c []))))), ⟨[.val (.lst (rs.map lstI)), .val (.int (a : Nat)), .val (.int (b : Nat)), .val (.tup (numsW l)), .val (.int k), .non], G⟩) := fun k => by
    have key := lc_all (s := ⟨[.val (.lst (rs.map lstI)), .val (.int (a : Nat)), .val (.int (b : Nat)), .val (.tup (numsW l)), .val (.int k), .non], G⟩) (k := ⟨numsW l, none⟩) (vs := [5]) (t := tgN 5) (tt := mYes) (me := mBin (fIn false) (mName 4) (mBin fIx (mName 0) (mName 5))) (e := fun (c : Nat) => W.int (c : Int)) trivial
      (fun c => W.bl (decide (k ∈ rs.getD c []))) l [] (fun c m => ⟨⟨[.val (.lst (rs.map lstI)), .val (.int (a : Nat)), .val (.int (b : Nat)), .val (.tup (numsW l)), .val (.int k), .val (.int (c : Nat))], G⟩, by simp, ⟨[.val (.lst (rs.map lstI)), .val (.int (a : Nat)), .val (.int (b : Nat)), .val (.tup (numsW l)), .val (.int k), .val (.int (c : Nat))], G⟩, by
        have ac := at_ c (hl c m)
        generalize rs.getD c [] = xs at ac ⊢
        simp [ac, fi], by simp⟩) (by show 0 + _ ≤ 16777216; omega)
    rw [List.nil_append] at key
    exact key
  have outer : lcL [4] (tgN 4) (mAnd (mB (mBin (fIn false) (mName 4) (mBin fIx (mName 0) (mName 2)))) (mNot (mB (mCB fAny (mCons (mLc [5] (mIter (mName 3)) (tgN 5) mYes (mBin (fIn false) (mName 4) (mBin fIx (mName 0) (mName 5)))) mNil))))) (mName 4) ⟨(rs.getD a []).map W.int, none⟩ ((rs.getD a []).map W.int) [] ⟨[.val (.lst (rs.map lstI)), .val (.int (a : Nat)), .val (.int (b : Nat)), .val (.tup (numsW l)), .non, .non], G⟩ =
      some (.ok (.own (.lst (((rs.getD a []).filter q).map W.int))), ⟨[.val (.lst (rs.map lstI)), .val (.int (a : Nat)), .val (.int (b : Nat)), .val (.tup (numsW l)), .non, .non], G⟩) := by
    have key := lc_pure (s := ⟨[.val (.lst (rs.map lstI)), .val (.int (a : Nat)), .val (.int (b : Nat)), .val (.tup (numsW l)), .non, .non], G⟩) (k := ⟨(rs.getD a []).map W.int, none⟩) (vs := [4]) (t := tgN 4) (tt := mAnd (mB (mBin (fIn false) (mName 4) (mBin fIx (mName 0) (mName 2)))) (mNot (mB (mCB fAny (mCons (mLc [5] (mIter (mName 3)) (tgN 5) mYes (mBin (fIn false) (mName 4) (mBin fIx (mName 0) (mName 5)))) mNil))))) (me := mName 4) (e := W.int) trivial
      q W.int (rs.getD a []) [] (fun k m => ⟨⟨[.val (.lst (rs.map lstI)), .val (.int (a : Nat)), .val (.int (b : Nat)), .val (.tup (numsW l)), .val (.int k), .non], G⟩, by
        have an := fAny_bls (fun c => decide (k ∈ rs.getD c [])) l
        have iner := inner k
        have wk : ∀ s : S, walkOf s (.tup (numsW l)) = some ⟨numsW l, none⟩ := fun _ => rfl
        show _ = some ((Except.ok (decide (k ∈ rs.getD b []) && !(l.any fun c => decide (k ∈ rs.getD c []))) : Except Ex Bool), _)
        generalize (l.map fun c => W.bl (decide (k ∈ rs.getD c []))) = B at an iner
        generalize (l.any fun c => decide (k ∈ rs.getD c [])) = bb at an ⊢
        generalize rs.getD b [] = xb at ab ⊢
        by_cases hk : k ∈ xb
        · simp [ab, fi, hk, iner, an]
        · simp [ab, fi, hk], fun _ => ⟨⟨[.val (.lst (rs.map lstI)), .val (.int (a : Nat)), .val (.int (b : Nat)), .val (.tup (numsW l)), .val (.int k), .non], G⟩, by simp, by simp⟩, fun _ => by simp⟩) (by
        have := canon_len (rs.getD a [])
        rw [getD_at ha, hc _ (List.getElem_mem ha)] at this
        rw [getD_at ha]
        show 0 + _ ≤ 16777216; omega)
    rw [List.nil_append] at key
    exact key
  have fin : ((rs.getD a []).filter q).map W.int = numsW (fk (keyB rs a b l)) := by
    rw [getD_at ha, row_keys hc ha]
    congr 2
    funext k
    show (_ && (_ && _)) = _
    unfold keyB unB rowB
    rw [Bool.and_assoc]
  rw [fin] at outer
  have wl : ∀ s : S, walkOf s (lstI (rs.getD a [])) = some ⟨(rs.getD a []).map W.int, none⟩ := fun _ => rfl
  generalize rs.getD a [] = xa at aa outer wl
  simp [b__law_keys_of, aa, outer]
end Z
set_option linter.all false
set_option maxRecDepth 100000
set_option maxHeartbeats 4000000
namespace Z
open PySem PySem.Spec PyProof.Rows L2
section
variable (rs : List (List Int)) (ps : List Nat) (t : Nat)
theorem nums_last : atI (numsW (ps ++ [t])) (-1) = some (.int (t : Nat)) := by
  refine atI_last (by simp [numsW]) ?_
  simp [numsW]
theorem nums_path : cutW (numsW (ps ++ [t])) none (some (-1)) = numsW ps := by
  rw [cut_last, numsW_dropLast]
  simp
theorem nums_two : cutW (numsW ps) (some 2) none = numsW (ps.drop 2) := by
  have := cut_from (numsW ps) 2
  rw [numsW_drop] at this
  exact this
theorem nums_end (h : 1 ≤ ps.length) : atI (numsW ps) (-1) = some (.int (ps.getD (ps.length - 1) 0 : Nat)) := by
  refine atI_last (by intro z; have := congrArg List.length z; rw [numsW_len] at this; have h0 : ([] : List W).length = 0 := rfl; omega) ?_
  rw [numsW_len]
  unfold numsW
  rw [List.getElem?_map, List.getElem?_eq_getElem (by omega), getD_at (by omega)]
  rfl
theorem getD_lt (hps : ∀ c ∈ ps, c < rs.length) {i : Nat} (h : i < ps.length) : ps.getD i 0 < rs.length := by
  rw [getD_at h]
  exact hps _ (List.getElem_mem h)
theorem drop_lt (hps : ∀ c ∈ ps, c < rs.length) (ht : t < rs.length) (k : Nat) : ∀ c ∈ ps.drop k ++ [t], c < rs.length := fun c m => by
  rcases List.mem_append.mp m with m | m
  · exact hps c (List.mem_of_mem_drop m)
  · rw [List.mem_singleton.mp m]; exact ht
theorem mids_all {f : (Nat → Bool) → Bool} : (midsB rs ps t).all f = true ↔ ∀ j, j < ps.length - 2 → f (midB rs ps t (j + 1)) = true := by
  unfold midsB
  simp [List.all_eq_true]
theorem x_mid (hc : ∀ xs ∈ rs, canon xs = xs) (hl : ps.length ≤ 50) (hps : ∀ c ∈ ps, c < rs.length) (ht : t < rs.length) {i : Nat} (hi : i + 1 < ps.length) (G : List Cell) :
    m__law_keys_of [.lst (rs.map lstI), .int (ps.getD i 0 : Nat), .int (ps.getD (i + 1) 0 : Nat), .tup (numsW (ps.drop (i + 2)) ++ [.int (t : Nat)])] G = some (.ok (.own (.lst (numsW (fk (midB rs ps t i))))), G) := by
  have := x_keys_of rs hc (ps.getD i 0) (ps.getD (i + 1) 0) (getD_lt rs ps hps (by omega)) (getD_lt rs ps hps hi) (ps.drop (i + 2) ++ [t]) (drop_lt rs ps t hps ht (i + 2)) (by rw [List.length_append, List.length_drop]; simp; omega) G
  rw [numsW_app] at this
  exact this
theorem mid_add {k : Nat} (hl : ps.length ≤ 50) (s : S) : liftO (fAdd (.tup (numsW (ps.drop k))) (.tup [.int (t : Nat)])) s = some (.ok (.val (.tup (numsW (ps.drop k) ++ [.int (t : Nat)]))), s) := addTup (by
  rw [numsW_len, List.length_drop]
  show _ + 1 ≤ 16777216
  omega) s
theorem ic_loop (hc : ∀ xs ∈ rs, canon xs = xs) (h2 : 2 ≤ ps.length) (hl : ps.length ≤ 50) (hps : ∀ c ∈ ps, c < rs.length) (ht : t < rs.length) (G : List Cell) : ∃ x4, _law_is_chain_s3 ⟨[.val (.lst (rs.map lstI)), .val (.tup (numsW (ps ++ [t]))), .val (.tup (numsW ps)), .val (.int (t : Nat)), .non], G⟩ =
    some (if ((midsB rs ps t).all fun f => !decide (fk f = [])) = true then .ok .nx else .ok (.rt (.val (.bl false))), ⟨[.val (.lst (rs.map lstI)), .val (.tup (numsW (ps ++ [t]))), .val (.tup (numsW ps)), .val (.int (t : Nat)), x4], G⟩) := by
  have ln : fLen [.tup (numsW ps)] = some (.imm (.int ps.length)) := by rw [fLen_t, numsW_len]
  have rk : Rk 1 ∧ Rk ((ps.length : Int) - 1) := by
    constructor
    · exact rk_small (by omega)
    · exact rk_small (by omega)
  have tn : ((ps.length : Int) - 1 - 1).toNat = ps.length - 2 := by omega
  have ma := mids_all rs ps t (f := fun f => !decide (fk f = []))
  generalize ((midsB rs ps t).all fun f => !decide (fk f = [])) = bb at ma ⊢
  simp [_law_is_chain_s3, ln, rk, tn]
  generalize hF : forL _ _ _ _ = F
  obtain ⟨r, s', rfl, x4, rfl, rfl⟩ := forL_exitAt hF (R := fun r s => ∃ x4, s = ⟨[.val (.lst (rs.map lstI)), .val (.tup (numsW (ps ++ [t]))), .val (.tup (numsW ps)), .val (.int (t : Nat)), x4], G⟩ ∧ r = if bb = true then .ok .nx else .ok (.rt (.val (.bl false))))
    (fun i s => ∃ x4, s = ⟨[.val (.lst (rs.map lstI)), .val (.tup (numsW (ps ++ [t]))), .val (.tup (numsW ps)), .val (.int (t : Nat)), x4], G⟩ ∧ ∀ j, j < i → fk (midB rs ps t (j + 1)) ≠ []) ⟨.non, rfl, fun j h => absurd h (by omega)⟩ (by
      rintro s ⟨x4, rfl, h⟩
      refine ⟨x4, rfl, ?_⟩
      rw [if_pos]
      refine ma.mpr fun j hj => ?_
      have := h j (by simpa [rngW] using hj)
      simpa using this) (by
    rintro i hi s ⟨x4, rfl, h⟩
    have hi : i < ps.length - 2 := by simpa [rngW] using hi
    have ei : (rngW 1 (ps.length - 2))[i]'(by simpa [rngW] using hi) = W.int ((i + 1 : Nat) : Int) := by
      simp [rngW]
      omega
    rw [ei]
    have a1 := numsW_at (l := ps) (i := i + 1) (by omega)
    have a2 : atI (numsW ps) (((i + 1 : Nat) : Int) + 1) = _ := numsW_at (l := ps) (i := i + 2) (by omega)
    have sl : cutW (numsW ps) (some (((i + 1 : Nat) : Int) + 2)) none = numsW (ps.drop (i + 3)) := by
      have := cut_from (numsW ps) (i + 3)
      rw [numsW_drop] at this
      exact this
    have sl : ∀ s, liftO (fSl (.tup (numsW ps)) (some (((i + 1 : Nat) : Int) + 2)) none) s = some (.ok (.val (.tup (numsW (ps.drop (i + 3))))), s) := fun s => by
      rw [slT, sl]
    have k := x_mid rs ps t hc hl hps ht (i := i + 1) (by omega) G
    have k : m__law_keys_of [.lst (rs.map lstI), .int (ps.getD (i + 1) 0 : Nat), .int (ps.getD (i + 2) 0 : Nat), .tup (numsW (ps.drop (i + 3)) ++ [.int (t : Nat)])] G = _ := k
    have ad := mid_add ps t (k := i + 3) hl
    have e1 := fEqD_nums (fk (midB rs ps t (i + 1)))
    have z1 : 1 ≤ sz := by decide
    generalize hN : ((i + 1 : Nat) : Int) = N at a1 a2 sl ⊢
    generalize numsW (ps.drop (i + 3)) = D at sl ad k
    generalize (D ++ [W.int (t : Nat)]) = D2 at ad k
    generalize ps.getD (i + 1) 0 = p0 at a1 k
    generalize ps.getD (i + 2) 0 = p1 at a2 k
    generalize numsW (fk (midB rs ps t (i + 1))) = K at k e1
    by_cases q : fk (midB rs ps t (i + 1)) = []
    · refine .inr (.inr (.inl ⟨.val (.bl false), ⟨[.val (.lst (rs.map lstI)), .val (.tup (numsW (ps ++ [t]))), .val (.tup (numsW ps)), .val (.int (t : Nat)), .val (.int N)], G⟩, ?_, _, rfl, ?_⟩))
      · simp [_law_is_chain_s3b_t0, _law_is_chain_s3b_s0, a1, a2, sl, ad, k, e1, q, z1]
      · rw [if_neg]
        intro z
        have := ma.mp z i hi
        simp [q] at this
    · refine .inl ⟨⟨[.val (.lst (rs.map lstI)), .val (.tup (numsW (ps ++ [t]))), .val (.tup (numsW ps)), .val (.int (t : Nat)), .val (.int N)], G⟩, .inl ?_, _, rfl, fun j hj => ?_⟩
      · simp [_law_is_chain_s3b_t0, _law_is_chain_s3b_s0, a1, a2, sl, ad, k, e1, q, z1]
      · rcases Nat.lt_succ_iff_lt_or_eq.mp hj with z | rfl
        · exact h j z
        · exact q)
  exact ⟨x4, rfl⟩
theorem x_is_chain (hc : ∀ xs ∈ rs, canon xs = xs) (h2 : 2 ≤ ps.length) (hl : ps.length ≤ 50) (hps : ∀ c ∈ ps, c < rs.length) (ht : t < rs.length) (G : List Cell) :
    m__law_is_chain [.lst (rs.map lstI), .tup (numsW (ps ++ [t]))] G = some (.ok (.val (.bl (isChain rs ps t))), G) := by
  unfold m__law_is_chain
  rw [fnM_o, _law_is_chain_cut]
  show outF (_law_is_chain_t0 ⟨[.val (.lst (rs.map lstI)), .val (.tup (numsW (ps ++ [t]))), .non, .non, .non], G⟩) = _
  have sl : ∀ (ws : List W) lo hi r, liftO (fSl (.tup ws) lo hi) ⟨r, G⟩ = some (.ok (.val (.tup (cutW ws lo hi))), ⟨r, G⟩) := fun ws lo hi r => slT _
  have np := nums_path ps t
  have nl := nums_last ps t
  have n2 := nums_two ps
  have ne := nums_end ps (by omega)
  have a0 : atI (numsW ps) 0 = _ := numsW_at (l := ps) (i := 0) (by omega)
  have a1 : atI (numsW ps) 1 = _ := numsW_at (l := ps) (i := 1) (by omega)
  have g := fun {i : Nat} (h : i < ps.length) => getD_lt rs ps hps h
  have dz : ∀ k, (ps.drop k).length ≤ 1000 := fun k => by rw [List.length_drop]; omega
  have k1 := x_keys_of rs hc (ps.getD 0 0) t (g (by omega)) ht (ps.drop 2) (fun c m => hps c (List.mem_of_mem_drop m)) (dz 2) G
  have k2 := x_keys_of rs hc (ps.getD 0 0) (ps.getD 1 0) (g (by omega)) (g (by omega)) (ps.drop 2) (fun c m => hps c (List.mem_of_mem_drop m)) (dz 2) G
  have k3 := x_keys_of rs hc (ps.getD (ps.length - 1) 0) t (g (by omega)) ht [] (fun c m => by simp at m) (by simp) G
  have k3 : m__law_keys_of [.lst (rs.map lstI), .int (ps.getD (ps.length - 1) 0 : Nat), .int (t : Nat), .tup []] G = some (.ok (.own (.lst (numsW (fk (lastB rs ps t))))), G) := k3
  have k1 : m__law_keys_of [.lst (rs.map lstI), .int (ps.getD 0 0 : Nat), .int (t : Nat), .tup (numsW (ps.drop 2))] G = some (.ok (.own (.lst (numsW (fk (earlyB rs ps t))))), G) := k1
  have k2 : m__law_keys_of [.lst (rs.map lstI), .int (ps.getD 0 0 : Nat), .int (ps.getD 1 0 : Nat), .tup (numsW (ps.drop 2))] G = some (.ok (.own (.lst (numsW (fk (firstB rs ps))))), G) := k2
  have s0 : _law_is_chain_s0 ⟨[.val (.lst (rs.map lstI)), .val (.tup (numsW (ps ++ [t]))), .non, .non, .non], G⟩ = some (.ok .nx, ⟨[.val (.lst (rs.map lstI)), .val (.tup (numsW (ps ++ [t]))), .val (.tup (numsW ps)), .non, .non], G⟩) := by
    simp [_law_is_chain_s0, sl, np]
  have s1 : _law_is_chain_s1 ⟨[.val (.lst (rs.map lstI)), .val (.tup (numsW (ps ++ [t]))), .val (.tup (numsW ps)), .non, .non], G⟩ = some (.ok .nx, ⟨[.val (.lst (rs.map lstI)), .val (.tup (numsW (ps ++ [t]))), .val (.tup (numsW ps)), .val (.int (t : Nat)), .non], G⟩) := by
    simp [_law_is_chain_s1, nl]
  have e1 := fEqD_nums (fk (earlyB rs ps t))
  have e2 := fEqD_nums (fk (firstB rs ps))
  have e3 := fNeD_nums (fk (lastB rs ps t))
  have tl : ∀ x4 : SV, _law_is_chain_t4 ⟨[.val (.lst (rs.map lstI)), .val (.tup (numsW (ps ++ [t]))), .val (.tup (numsW ps)), .val (.int (t : Nat)), x4], G⟩ = some (.ok (.rt (.val (.bl (!decide (fk (lastB rs ps t) = []))))), ⟨[.val (.lst (rs.map lstI)), .val (.tup (numsW (ps ++ [t]))), .val (.tup (numsW ps)), .val (.int (t : Nat)), x4], G⟩) := fun x4 => by
    generalize numsW (fk (lastB rs ps t)) = K3 at k3 e3
    generalize ps.getD (ps.length - 1) 0 = pl at k3 ne
    simp [_law_is_chain_t4, _law_is_chain_s4, ne, k3, e3]
  unfold _law_is_chain_t0
  rw [seqt s0]
  unfold _law_is_chain_t1
  rw [seqt s1]
  unfold isChain
  rw [List.all_append]
  by_cases q1 : fk (earlyB rs ps t) = []
  · generalize numsW (fk (earlyB rs ps t)) = K1 at k1 e1
    generalize ps.getD 0 0 = p0 at a0 k1
    simp [_law_is_chain_t2, _law_is_chain_s2, a0, sl, n2, k1, e1, q1, outF]
  by_cases q2 : fk (firstB rs ps) = []
  · generalize numsW (fk (earlyB rs ps t)) = K1 at k1 e1
    generalize numsW (fk (firstB rs ps)) = K2 at k2 e2
    generalize ps.getD 0 0 = p0 at a0 k1 k2
    generalize ps.getD 1 0 = p1 at a1 k2
    simp [_law_is_chain_t2, _law_is_chain_s2, a0, a1, sl, n2, k1, e1, q1, k2, e2, q2, outF]
  have s2 : _law_is_chain_s2 ⟨[.val (.lst (rs.map lstI)), .val (.tup (numsW (ps ++ [t]))), .val (.tup (numsW ps)), .val (.int (t : Nat)), .non], G⟩ = some (.ok .nx, ⟨[.val (.lst (rs.map lstI)), .val (.tup (numsW (ps ++ [t]))), .val (.tup (numsW ps)), .val (.int (t : Nat)), .non], G⟩) := by
    generalize numsW (fk (earlyB rs ps t)) = K1 at k1 e1
    generalize numsW (fk (firstB rs ps)) = K2 at k2 e2
    generalize ps.getD 0 0 = p0 at a0 k1 k2
    generalize ps.getD 1 0 = p1 at a1 k2
    simp [_law_is_chain_s2, a0, a1, sl, n2, k1, e1, q1, k2, e2, q2]
  unfold _law_is_chain_t2
  rw [seqt s2]
  obtain ⟨x4, e⟩ := ic_loop rs ps t hc h2 hl hps ht G
  unfold _law_is_chain_t3
  by_cases q3 : ((midsB rs ps t).all fun f => !decide (fk f = [])) = true
  · rw [if_pos q3] at e
    rw [seqt e, tl x4, q3]
    simp [outF, q1, q2]
  · rw [if_neg q3] at e
    have q3 : ((midsB rs ps t).all fun f => !decide (fk f = [])) = false := by simpa using q3
    rw [q3]
    unfold mSeq
    simp [bnd, e, outF, q1, q2]
end
end Z
set_option linter.all false
set_option maxRecDepth 100000
set_option maxHeartbeats 4000000
namespace Z
open PySem PySem.Spec PyProof.Rows L2
theorem fAdd_ls {a b : List W} (h : a.length + b.length ≤ sz) : fAdd (.lst a) (.lst b) = some (.newl (a ++ b)) := by
  unfold fAdd orf
  rw [show fI (fun i j => i + j) (.lst a) (.lst b) = none from rfl]
  simp only []
  rw [show fAddS (.lst a) (.lst b) = none from rfl]
  simp only []
  rw [show fAddL (.lst a) (.lst b) = some (.newl (a ++ b)) from by unfold fAddL; simp [h]]
def natT (l : List Nat) : W := .tup (numsW l)
def longer1 (n t : Nat) (p : List Nat) : List (List Nat) := ((List.range n).filter fun c => !decide (c = t) && !decide (c ∈ p)).map fun c => p ++ [c]
theorem longer1_len {n t : Nat} {p : List Nat} : (longer1 n t p).length ≤ n := by
  unfold longer1
  rw [List.length_map]
  exact Nat.le_trans (List.length_filter_le _ _) (by simp)
def longerL (n t : Nat) (ps : List (List Nat)) : List (List Nat) := ps.flatMap (longer1 n t)
theorem longerL_len {n t : Nat} : ∀ {ps : List (List Nat)}, (longerL n t ps).length ≤ n * ps.length
  | [] => by simp [longerL]
  | p :: ps => by
    have h1 := longer1_len (n := n) (t := t) (p := p)
    have h2 := longerL_len (n := n) (t := t) (ps := ps)
    have e : longerL n t (p :: ps) = longer1 n t p ++ longerL n t ps := rfl
    rw [e, List.length_append, List.length_cons, Nat.mul_succ]
    omega
theorem longerL_mem {n t k : Nat} {ps : List (List Nat)} (h : ∀ p ∈ ps, p.length = k ∧ ∀ c ∈ p, c < n) : ∀ p ∈ longerL n t ps, p.length = k + 1 ∧ ∀ c ∈ p, c < n := fun q hq => by
  obtain ⟨p, hp, hq⟩ := List.mem_flatMap.mp hq
  unfold longer1 at hq
  obtain ⟨c, hc, rfl⟩ := List.mem_map.mp hq
  have hcn := List.mem_range.mp (List.mem_filter.mp hc).1
  obtain ⟨h1, h2⟩ := h p hp
  refine ⟨by simp [h1], fun d hd => ?_⟩
  rcases List.mem_append.mp hd with z | z
  · exact h2 d z
  · rw [List.mem_singleton.mp z]; exact hcn
theorem fIn_nums (neg : Bool) (c : Nat) (p : List Nat) : fIn neg (.int (c : Int)) (.tup (numsW p)) = some (.imm (.bl (decide (c ∈ p) != neg))) := by
  rw [nums_int, fIn_tupI]
  congr 4
  rw [decide_eq_decide]
  constructor
  · intro h
    obtain ⟨d, hd, e⟩ := List.mem_map.mp h
    have : d = c := by omega
    exact this ▸ hd
  · exact fun h => List.mem_map.mpr ⟨c, h, rfl⟩
theorem x_longer (n t : Nat) (hn : n ≤ 6) (paths : List (List Nat)) (hp : ∀ p ∈ paths, p.length ≤ 50) (hl : paths.length ≤ 10000) (G : List Cell) :
    m__law_longer [.lst (paths.map natT), .int (n : Nat), .int (t : Nat)] G = some (.ok (.own (.lst ((longerL n t paths).map natT))), G) := by
  unfold m__law_longer
  rw [fnM_o]
  have rk : Rk (n : Int) := rk_nat (by omega)
  simp [b__law_longer]
  generalize hF : forL _ _ _ _ = F
  obtain ⟨s', rfl, x4, x3, rfl, hx⟩ := forL_at hF (fun i s => ∃ x4 x3, s = ⟨[.val (.lst (paths.map natT)), .val (.int (n : Nat)), .val (.int (t : Nat)), .own (.lst (x3.map natT)), x4, .non], G⟩ ∧ x3 = longerL n t (paths.take i)) ⟨.non, [], rfl, rfl⟩ (by
    rintro i hi s ⟨x4, x3, rfl, hx⟩
    have hi : i < paths.length := by simpa using hi
    have ei : (paths.map natT)[i]'(by simpa using hi) = natT paths[i] := by simp
    rw [ei]
    have hpi := hp _ (List.getElem_mem hi)
    have e1 : longerL n t (paths.take (i + 1)) = x3 ++ longer1 n t paths[i] := by
      rw [hx, List.take_succ_eq_append_getElem hi]
      unfold longerL
      rw [List.flatMap_append]
      simp
    have lx : x3.length ≤ 60000 := by
      have h1 := longerL_len (n := n) (t := t) (ps := paths.take i)
      rw [← hx, List.length_take] at h1
      have : n * min i paths.length ≤ 6 * 10000 := Nat.mul_le_mul hn (by omega)
      omega
    refine ⟨⟨[.val (.lst (paths.map natT)), .val (.int (n : Nat)), .val (.int (t : Nat)), .own (.lst ((x3 ++ longer1 n t paths[i]).map natT)), .val (natT paths[i]), .non], G⟩, ?_, _, _, rfl, e1.symm⟩
    generalize paths[i] = p at hpi ⊢
    have lcA : lcL [5] (tgN 5) (mAnd (mB (mBin fNeD (mName 5) (mName 2))) (mB (mBin (fIn true) (mName 5) (mName 4)))) (mBin fAdd (mName 4) (mTup (mCons (mName 5) mNil))) ⟨rngW 0 n, none⟩ (rngW 0 n) [] ⟨[.val (.lst (paths.map natT)), .val (.int (n : Nat)), .val (.int (t : Nat)), .own (.lst (x3.map natT)), .val (natT p), .non], G⟩ =
        some (.ok (.own (.lst ((longer1 n t p).map natT))), ⟨[.val (.lst (paths.map natT)), .val (.int (n : Nat)), .val (.int (t : Nat)), .own (.lst (x3.map natT)), .val (natT p), .non], G⟩) := by
      have key := lc_pure (s := ⟨[.val (.lst (paths.map natT)), .val (.int (n : Nat)), .val (.int (t : Nat)), .own (.lst (x3.map natT)), .val (natT p), .non], G⟩) (k := ⟨rngW 0 n, none⟩) (vs := [5]) (t := tgN 5) (tt := mAnd (mB (mBin fNeD (mName 5) (mName 2))) (mB (mBin (fIn true) (mName 5) (mName 4)))) (me := mBin fAdd (mName 4) (mTup (mCons (mName 5) mNil))) (e := fun (c : Nat) => W.int (0 + (c : Int))) trivial
        (fun c => !decide (c = t) && !decide (c ∈ p)) (fun c => natT (p ++ [c])) (List.range n) [] (fun c _ => by
          refine ⟨⟨[.val (.lst (paths.map natT)), .val (.int (n : Nat)), .val (.int (t : Nat)), .own (.lst (x3.map natT)), .val (natT p), .val (.int (c : Nat))], G⟩, ?_, fun _ => ⟨⟨[.val (.lst (paths.map natT)), .val (.int (n : Nat)), .val (.int (t : Nat)), .own (.lst (x3.map natT)), .val (natT p), .val (.int (c : Nat))], G⟩, ?_, by simp⟩, fun _ => by simp⟩
          · have i1 := fIn_nums true c p
            unfold natT
            by_cases q : c = t
            · subst q
              simp [fNeD_i]
            · have q' : ¬ ((c : Int) = (t : Int)) := by omega
              simp [fNeD_i, i1, q, q']
          · have ad : ∀ s, liftO (fAdd (.tup (numsW p)) (.tup [.int (c : Nat)])) s = some (.ok (.val (natT (p ++ [c]))), s) := fun s => by
              rw [addTup (by rw [numsW_len]; show _ + 1 ≤ 16777216; omega)]
              unfold natT
              rw [numsW_app]
              rfl
            unfold natT at ad ⊢
            have z1 : 1 ≤ sz := by decide
            simp [ad, z1]) (by
          show 0 + _ ≤ 16777216
          simp
          omega)
      unfold longer1
      rw [List.map_map]
      rw [List.nil_append] at key
      exact key
    have ad := fAdd_ls (a := x3.map natT) (b := (longer1 n t p).map natT) (by
      rw [List.length_map, List.length_map]
      have := longer1_len (n := n) (t := t) (p := p)
      show _ ≤ 16777216
      omega)
    rw [List.map_append]
    generalize (longer1 n t p).map natT = L at lcA ad ⊢
    generalize x3.map natT = X at lcA ad ⊢
    simp [rk, lcA, ad])
  rw [hx]
  simp
end Z
set_option linter.all false
set_option maxRecDepth 100000
set_option maxHeartbeats 4000000
namespace Z
open PySem PySem.Spec PyProof.Rows L2
theorem six_pow {i : Nat} (h : i ≤ 4) : 6 ^ i ≤ 1296 := Nat.le_trans (Nat.pow_le_pow_right (by decide) h) (by decide)
theorem six_mul {n i l m : Nat} (hn : n ≤ 6) (hl : l ≤ 6 ^ i) (hm : m ≤ n * l) : m ≤ 6 ^ (i + 1) := by
  have h1 : n * l ≤ 6 * 6 ^ i := Nat.mul_le_mul hn hl
  have h2 : 6 * 6 ^ i = 6 ^ (i + 1) := by rw [Nat.pow_succ, Nat.mul_comm]
  omega
section
variable (rs : List (List Int)) (s t : Nat)
def pathsL (n s t : Nat) : Nat → List (List Nat)
  | 0 => [[s]]
  | i + 1 => longerL n t (pathsL n s t i)
def foundL (rs : List (List Int)) (s t : Nat) (i : Nat) : List (List Nat) := (List.range i).flatMap fun j => ((pathsL rs.length s t (j + 1)).filter fun p => isChain rs p t).map fun p => p ++ [t]
theorem paths_mem {n s t : Nat} (hs : s < n) : ∀ i, ∀ p ∈ pathsL n s t i, p.length = i + 1 ∧ ∀ c ∈ p, c < n
  | 0 => fun p hp => by
    rw [List.mem_singleton.mp hp]
    exact ⟨rfl, fun c hc => by rw [List.mem_singleton.mp hc]; exact hs⟩
  | i + 1 => longerL_mem (paths_mem hs i)
theorem paths_len {n s t : Nat} (hn : n ≤ 6) : ∀ i, (pathsL n s t i).length ≤ 6 ^ i
  | 0 => Nat.le_refl _
  | i + 1 => six_mul hn (paths_len hn i) longerL_len
theorem found_succ (i : Nat) : foundL rs s t (i + 1) = foundL rs s t i ++ ((pathsL rs.length s t (i + 1)).filter fun p => isChain rs p t).map fun p => p ++ [t] := by
  unfold foundL
  rw [List.range_succ, List.flatMap_append]
  simp
theorem found_len (h6 : rs.length ≤ 6) : ∀ i, i ≤ 4 → (foundL rs s t i).length ≤ 1296 * i
  | 0, _ => by simp [foundL]
  | i + 1, h => by
    have := found_len h6 i (by omega)
    rw [found_succ, List.length_append, List.length_map]
    have h1 := List.length_filter_le (fun p => isChain rs p t) (pathsL rs.length s t (i + 1))
    have h2 := paths_len (s := s) (t := t) h6 (i + 1)
    have h3 := six_pow h
    omega
theorem x_chains (hc : ∀ xs ∈ rs, canon xs = xs) (h3 : 2 ≤ rs.length) (h6 : rs.length ≤ 6) (hs : s < rs.length) (ht : t < rs.length) (G : List Cell) :
    m__law_chains [.lst (rs.map lstI), .int (s : Nat), .int (t : Nat)] G = some (.ok (.own (.lst ((foundL rs s t (rs.length - 2)).map natT))), G) := by
  unfold m__law_chains
  rw [fnM_o, _law_chains_cut]
  show outF (_law_chains_t0 ⟨[.val (.lst (rs.map lstI)), .val (.int (s : Nat)), .val (.int (t : Nat)), .non, .non, .non, .non], G⟩) = _
  have z1 : 1 ≤ sz := by decide
  have s0 : _law_chains_s0 ⟨[.val (.lst (rs.map lstI)), .val (.int (s : Nat)), .val (.int (t : Nat)), .non, .non, .non, .non], G⟩ = some (.ok .nx, ⟨[.val (.lst (rs.map lstI)), .val (.int (s : Nat)), .val (.int (t : Nat)), .own (.lst ((foundL rs s t 0).map natT)), .non, .non, .non], G⟩) := by
    simp [_law_chains_s0, foundL]
  have s1 : _law_chains_s1 ⟨[.val (.lst (rs.map lstI)), .val (.int (s : Nat)), .val (.int (t : Nat)), .own (.lst ((foundL rs s t 0).map natT)), .non, .non, .non], G⟩ = some (.ok .nx, ⟨[.val (.lst (rs.map lstI)), .val (.int (s : Nat)), .val (.int (t : Nat)), .own (.lst ((foundL rs s t 0).map natT)), .own (.lst ((pathsL rs.length s t 0).map natT)), .non, .non], G⟩) := by
    have e : (pathsL rs.length s t 0).map natT = [.tup [.int (s : Nat)]] := rfl
    rw [e]
    generalize (foundL rs s t 0).map natT = F0
    simp [_law_chains_s1, z1]
  unfold _law_chains_t0
  rw [seqt s0]
  unfold _law_chains_t1
  rw [seqt s1]
  have s2 : ∃ x4 x5, _law_chains_s2 ⟨[.val (.lst (rs.map lstI)), .val (.int (s : Nat)), .val (.int (t : Nat)), .own (.lst ((foundL rs s t 0).map natT)), .own (.lst ((pathsL rs.length s t 0).map natT)), .non, .non], G⟩ = some (.ok .nx, ⟨[.val (.lst (rs.map lstI)), .val (.int (s : Nat)), .val (.int (t : Nat)), .own (.lst ((foundL rs s t (rs.length - 2)).map natT)), x4, x5, .non], G⟩) := by
    have rk : Rk ((rs.length : Int) - 2) := rk_small (by omega)
    have tn : ((rs.length : Int) - 2).toNat = rs.length - 2 := by omega
    have ln : fLen [.lst (rs.map lstI)] = some (.imm (.int rs.length)) := by simp
    simp [_law_chains_s2, rk, tn]
    generalize hF : forL _ _ _ _ = F
    obtain ⟨s', rfl, x4, x5, rfl, -⟩ := forL_at hF (fun i st => ∃ x4 x5, st = ⟨[.val (.lst (rs.map lstI)), .val (.int (s : Nat)), .val (.int (t : Nat)), .own (.lst ((foundL rs s t i).map natT)), x4, x5, .non], G⟩ ∧ (x4 = .own (.lst ((pathsL rs.length s t i).map natT)) ∨ x4 = .val (.lst ((pathsL rs.length s t i).map natT)))) ⟨_, _, rfl, .inl rfl⟩ (by
      rintro i hi st ⟨x4, x5, rfl, h4⟩
      have hi : i < rs.length - 2 := by simpa [rngW] using hi
      have ei : (rngW 0 (rs.length - 2))[i]'(by simpa [rngW] using hi) = W.int i := by simp [rngW]
      rw [ei]
      have pm := paths_mem (t := t) hs i
      have pl := paths_len (s := s) (t := t) h6 i
      have p6 := six_pow (i := i) (by omega)
      have pm1 := paths_mem (t := t) hs (i + 1)
      have pl1 := paths_len (s := s) (t := t) h6 (i + 1)
      have p61 := six_pow (i := i + 1) (by omega)
      have fl := found_len rs s t h6 i (by omega)
      have lg := x_longer rs.length t h6 (pathsL rs.length s t i) (fun p hp => by rw [(pm p hp).1]; omega) (by omega) G
      have lg : m__law_longer [.lst ((pathsL rs.length s t i).map natT), .int (rs.length : Nat), .int (t : Nat)] G = some (.ok (.own (.lst ((pathsL rs.length s t (i + 1)).map natT))), G) := lg
      have fs := found_succ rs s t i
      generalize pathsL rs.length s t (i + 1) = P1 at pm1 pl1 lg fs ⊢
      have lc := lc_pure (s := ⟨[.val (.lst (rs.map lstI)), .val (.int (s : Nat)), .val (.int (t : Nat)), .own (.lst ((foundL rs s t i).map natT)), .val (.lst (P1.map natT)), .val (.int (i : Nat)), .non], G⟩) (k := ⟨P1.map natT, none⟩) (vs := [6]) (t := tgN 6) (tt := (mB (mCall 2 m__law_is_chain (mCons (mName 0) (mCons (mBin fAdd (mName 6) (mTup (mCons (mName 2) mNil))) mNil))))) (me := (mBin fAdd (mName 6) (mTup (mCons (mName 2) mNil)))) (e := natT) trivial
        (fun p => isChain rs p t) (fun p => natT (p ++ [t])) P1 [] (fun p hp => by
          obtain ⟨h1, h2⟩ := pm1 p hp
          have ad : ∀ s, liftO (fAdd (.tup (numsW p)) (.tup [.int (t : Nat)])) s = some (.ok (.val (.tup (numsW (p ++ [t])))), s) := fun s => by
            rw [addTup (by rw [numsW_len]; show _ + 1 ≤ 16777216; omega), numsW_app]
            rfl
          have ic := x_is_chain rs p t hc (by omega) (by omega) h2 ht G
          refine ⟨⟨[.val (.lst (rs.map lstI)), .val (.int (s : Nat)), .val (.int (t : Nat)), .own (.lst ((foundL rs s t i).map natT)), .val (.lst (P1.map natT)), .val (.int (i : Nat)), .val (natT p)], G⟩, ?_, fun _ => ⟨⟨[.val (.lst (rs.map lstI)), .val (.int (s : Nat)), .val (.int (t : Nat)), .own (.lst ((foundL rs s t i).map natT)), .val (.lst (P1.map natT)), .val (.int (i : Nat)), .val (natT p)], G⟩, ?_, by simp⟩, fun _ => by simp⟩
          · unfold natT
            generalize P1.map (fun l => W.tup (numsW l)) = PP
            simp [ad, z1, ic]
          · unfold natT
            generalize P1.map (fun l => W.tup (numsW l)) = PP
            simp [ad, z1]) (by
          show 0 + _ ≤ 16777216
          omega)
      rw [List.nil_append] at lc
      have ad := fAdd_ls (a := (foundL rs s t i).map natT) (b := (P1.filter fun p => isChain rs p t).map fun p => natT (p ++ [t])) (by
        rw [List.length_map, List.length_map]
        have := List.length_filter_le (fun p => isChain rs p t) P1
        show _ ≤ 16777216
        omega)
      have e2 : (foundL rs s t i).map natT ++ ((P1.filter fun p => isChain rs p t).map fun p => natT (p ++ [t])) = (foundL rs s t (i + 1)).map natT := by
        rw [fs, List.map_append, List.map_map]
        rfl
      rw [e2] at ad
      refine ⟨⟨[.val (.lst (rs.map lstI)), .val (.int (s : Nat)), .val (.int (t : Nat)), .own (.lst ((foundL rs s t (i + 1)).map natT)), .val (.lst (P1.map natT)), .val (.int (i : Nat)), .non], G⟩, ?_, _, _, rfl, .inr rfl⟩
      generalize ((P1.filter fun p => isChain rs p t).map fun p => natT (p ++ [t])) = B at lc ad
      generalize (foundL rs s t i).map natT = A at lc ad ⊢
      generalize (foundL rs s t (i + 1)).map natT = C at ad ⊢
      generalize P1.map natT = PP at lg lc ⊢
      rcases h4 with rfl | rfl
      · simp [_law_chains_s2b_t0, _law_chains_s2b_s0, _law_chains_s2b_t1, _law_chains_s2b_s1, lg, lc, ad]
      · simp [_law_chains_s2b_t0, _law_chains_s2b_s0, _law_chains_s2b_t1, _law_chains_s2b_s1, lg, lc, ad])
    refine ⟨x4, x5, ?_⟩
    simp [rngW]
  obtain ⟨x4, x5, e⟩ := s2
  unfold _law_chains_t2
  rw [seqt e]
  simp [_law_chains_t3, _law_chains_s3, outF]
end
end Z
set_option linter.all false
set_option maxRecDepth 100000
set_option maxHeartbeats 4000000
set_option linter.all false
set_option maxRecDepth 100000
set_option maxHeartbeats 4000000
namespace Z
open PySem PySem.Spec PyProof.Rows L2
def intsN (c : List Nat) : List Int := c.map fun (x : Nat) => (x : Int)
theorem natT_e (c : List Nat) : natT c = tupI (intsN c) := (natI_e c).symm
theorem path_form {n : Nat} {ys : List Int} (h : isPathB n ys = true) : ∃ ps t, ys = intsN (ps ++ [t]) := by
  unfold isPathB at h
  simp only [Bool.and_eq_true, decide_eq_true_eq, List.all_eq_true] at h
  obtain ⟨h1, -, h3⟩ := h
  have e : ys = intsN (ys.map Int.toNat) := by
    unfold intsN
    rw [List.map_map]
    have := List.map_congr_left (f := (fun (x : Nat) => (x : Int)) ∘ Int.toNat) (g := id) (l := ys) (fun x hx => by
      have := (h3 x hx).1
      show ((x.toNat : Nat) : Int) = x
      omega)
    rw [List.map_id] at this
    exact this.symm
  have hne : ys.map Int.toNat ≠ [] := fun z => by
    have := congrArg List.length z
    rw [List.length_map] at this
    have h0 : ([] : List Nat).length = 0 := rfl
    omega
  exact ⟨(ys.map Int.toNat).dropLast, (ys.map Int.toNat).getLast hne, by rw [List.dropLast_concat_getLast hne]; exact e⟩
end Z
set_option linter.all false
set_option maxRecDepth 100000
set_option maxHeartbeats 4000000
namespace Z
open PySem PySem.Spec PyProof.Rows L2
def chainB (rs : List (List Int)) (ys : List Int) : Bool := isPathB rs.length ys && isChain rs ((ys.map Int.toNat).dropLast) ((ys.map Int.toNat).getLastD 0)
theorem chain_form {rs : List (List Int)} {ps : List Nat} {t : Nat} : chainB rs (intsN (ps ++ [t])) = (isPathB rs.length (intsN (ps ++ [t])) && isChain rs ps t) := by
  unfold chainB
  have e : (intsN (ps ++ [t])).map Int.toNat = ps ++ [t] := by
    unfold intsN
    rw [List.map_map]
    have : (Int.toNat ∘ fun (x : Nat) => (x : Int)) = id := by funext x; simp
    rw [this, List.map_id]
  rw [e, List.dropLast_concat]
  congr 2
  simp
theorem x_keys_none (rs : List (List Int)) (hc : ∀ xs ∈ rs, canon xs = xs) (h6 : rs.length ≤ 6) (ys : List Int) (hl : ys.length ≤ 50) (h : chainB rs ys = false) (G : List Cell) : m_chain_keys [lay rs, tupI ys] G = some (.ok (.val .non), G) := by
  cases hp : isPathB rs.length ys with
  | false => exact x_keys_bad rs (by omega) ys (by omega) hp G
  | true =>
    obtain ⟨ps, t, rfl⟩ := path_form hp
    rw [chain_form, hp, Bool.true_and] at h
    have := x_keys rs ps t hc h6 (by
      have : (intsN (ps ++ [t])).length = (ps ++ [t]).length := by simp [intsN]
      rw [List.length_append] at this
      omega) hp G
    rw [h] at this
    exact this
theorem line_mem {rs : List (List Int)} {l : List Int} (h : l ∈ linesOf rs) : ∃ s t : Nat, l = [(s : Int), (t : Int)] ∧ s < rs.length ∧ t < rs.length := by
  unfold linesOf at h
  obtain ⟨s, hs, h⟩ := List.mem_flatMap.mp h
  unfold linesFrom at h
  obtain ⟨t, ht, rfl⟩ := List.mem_map.mp h
  exact ⟨s, t, rfl, List.mem_range.mp hs, List.mem_range.mp (List.mem_filter.mp ht).1⟩
theorem atI_mod {α : Type} {l : List α} (x : Int) (h : l ≠ []) : ∃ y ∈ l, atI l (x % (l.length : Int)) = some y := by
  have hl : 0 < l.length := List.length_pos_iff.mpr h
  obtain ⟨n, hn⟩ := Int.eq_ofNat_of_zero_le (Int.emod_nonneg x (show (l.length : Int) ≠ 0 by omega))
  have hlt := Int.emod_lt_of_pos x (show (0 : Int) < l.length by omega)
  have hn2 : n < l.length := by omega
  refine ⟨l[n], List.getElem_mem hn2, ?_⟩
  rw [hn]
  exact atI_nat (by simp [hn2])
theorem fNeD_tups (l : List (List Int)) : fNeD (.lst (l.map tupI)) (.lst []) = some (.imm (.bl (!decide (l = [])))) := by
  have := fNeD_emb (emb_lst emb_row) (by decide) l []
  refine Eq.trans this ?_
  congr 3
  rw [← decide_not, decide_eq_decide]
end Z
set_option linter.all false
set_option maxRecDepth 100000
set_option maxHeartbeats 1000000
namespace Z
open PySem PySem.Spec PyProof.Rows L2
def layC (rs : List (List Int)) : Cell := .ins "Layout" [("rows", .lst (rs.map tupI)), ("masks", .lst (rs.map fun xs => W.int (mask xs)))]
@[simp high] theorem layC_toW {rs : List (List Int)} : (layC rs).toW = lay rs := rfl
theorem x_layout {r : List SV} {G : List Cell} {rs : List (List Int)} (hc : ∀ xs ∈ rs, canon xs = xs) (h1 : 1 ≤ rs.length) (h6 : rs.length ≤ 6) : makeG "Layout" m_Layout___init__ [.lst (rs.map lstI)] ⟨r, G⟩ = some (.ok (.own (layC rs)), ⟨r, G⟩) :=
  x_makeL (canon_map hc) h1 h6 (canon_k8 hc)
theorem lc_copy {st : SV → S} {i : Nat} {kk : Wk} (rs : List (List Int)) (hl : rs.length ≤ 6) (hk : kk.ok (st .non)) (ht : ∀ v, tgN i v (st .non) = some (.ok (), st (.val v))) (hw : ∀ v, wipeS [i] (st v) = st .non) (hy : ∀ v, mYes (st v) = some (.ok true, st v))
    (he : ∀ xs, (bnd (mCB fList (mCons (mName i) mNil)) fun y => freeze (settle y)) (st (.val (lstI xs))) = some (.ok (lstI xs), st (.val (lstI xs)))) :
    lcL [i] (tgN i) mYes (mCB fList (mCons (mName i) mNil)) kk (rs.map lstI) [] (st .non) = some (.ok (.own (.lst (rs.map lstI))), st .non) := by
  have key := lc_all (s := st .non) (k := kk) (vs := [i]) (t := tgN i) (tt := mYes) (me := mCB fList (mCons (mName i) mNil)) (e := lstI) hk lstI rs [] (fun t m => ⟨st (.val (lstI t)), by rw [bnd_at (ht _)]; exact hy _, st (.val (lstI t)), he _, hw _⟩) (by show 0 + rs.length ≤ 16777216; omega)
  rw [List.nil_append] at key
  exact key
theorem fList_lstI {xs : List Int} : fList [lstI xs] = some (.newl (xs.map W.int)) := rfl
theorem lstI_w {xs : List Int} : W.lst (xs.map W.int) = lstI xs := rfl
end Z
set_option linter.all false
set_option maxRecDepth 100000
set_option maxHeartbeats 4000000
namespace Z
open PySem PySem.Spec PyProof.Rows L2
section
variable {a b : Gm} {ws ws1 ws' : List W} {s s1 s' : S} {m : Mo Fl} {mc : Mo Bool} {me : Mo RV} {mi : Mo Wk} {t : W → Mo Unit} {w : W} {k : Wk}
theorem gq_seq (h : a ws s = some (.ok (.nx, ws1), s1)) : mGseq a b ws s = b ws1 s1 := by
  unfold mGseq
  rw [h]
theorem gq_p (h : m s = some (.ok .nx, s')) (hG : s'.G = []) : mGp (chkG m) ws s = some (.ok (.nx, ws), s') := by
  unfold mGp
  rw [chkG_at h hG]
theorem gq_if {c : Bool} (h : mc s = some (.ok c, s')) (hG : s'.G = []) : mGif (chkG mc) a b ws s = if c = true then a ws s' else b ws s' := by
  unfold mGif
  rw [chkG_at h hG]
  cases c <;> rfl
theorem gq_y (h : me s = some (.ok (.val w), s')) (hG : s'.G = []) (hz : ws.length < sz) : mGy (chkG me) ws s = some (.ok (.nx, ws ++ [w]), s') := by
  unfold mGy
  rw [if_pos hz]
  have : (bnd (chkG me) fun x => freeze (settle x)) s = some (.ok w, s') := by
    unfold bnd
    rw [chkG_at h hG]
    rfl
  rw [this]
theorem gq_for (h : mi s = some (.ok k, s')) (hG : s'.G = []) : mGfor (chkG mi) t a ws s = forG k k.ws (fun w => mGt (t w) a) ws s' := by
  unfold mGfor
  rw [chkG_at h hG]
theorem gq_t {u : Mo Unit} (h : u s = some (.ok (), s')) (hG : s'.G = []) : mGt (chkG u) a ws s = a ws s' := by
  unfold mGt
  rw [chkG_at h hG]
theorem gq_nil {PP : List W} {b : W → Gm} : forG ⟨PP, none⟩ [] b ws s = some (.ok (.nx, ws), s) := by
  unfold forG
  exact if_pos trivial
theorem gq_cons {PP l : List W} {b : W → Gm} (h : b w ws s = some (.ok (.nx, ws1), s1)) : forG ⟨PP, none⟩ (w :: l) b ws s = forG ⟨PP, none⟩ l b ws1 s1 := by
  show (if (⟨PP, none⟩ : Wk).ok s then (match b w ws s with
    | some (.ok (.nx, ws'), s') => forG ⟨PP, none⟩ l b ws' s'
    | some (.ok (.ct, ws'), s') => forG ⟨PP, none⟩ l b ws' s'
    | some (.ok (.bk, ws'), s') => some (.ok (.nx, ws'), s')
    | some (.error x, s') => some (.error x, s')
    | none => none) else none) = _
  rw [if_pos (show (⟨PP, none⟩ : Wk).ok s from trivial), h]
theorem gq_loop {ws0 : List W} {b : W → Gm} : ∀ {l : List W} {ws : List W} {s : S} (I : Nat → List W → S → Prop), I 0 ws s → (∀ (i : Nat) (hi : i < l.length) (ws : List W) (s : S), I i ws s → ∃ ws' s', b l[i] ws s = some (.ok (.nx, ws'), s') ∧ I (i + 1) ws' s') →
    ∃ ws' s', forG ⟨ws0, none⟩ l b ws s = some (.ok (.nx, ws'), s') ∧ I l.length ws' s'
  | [], ws, s, I, h0, h => ⟨ws, s, by unfold forG; exact if_pos trivial, h0⟩
  | w :: l, ws, s, I, h0, h => by
    obtain ⟨ws1, s1, e1, h1⟩ := h 0 (by simp) ws s h0
    obtain ⟨ws', s', e2, h2⟩ := gq_loop (ws0 := ws0) (b := b) (l := l) (fun i => I (i + 1)) h1 fun i hi ws s hI => h (i + 1) (by simpa using hi) ws s hI
    refine ⟨ws', s', ?_, h2⟩
    unfold forG
    rw [if_pos (show (⟨ws0, none⟩ : Wk).ok s from trivial)]
    have e1 : b w ws s = some (.ok (.nx, ws1), s1) := e1
    rw [e1]
    exact e2
end
section
variable {γ δ : Type} {e : γ → W} {e1 : δ → W} {k : Wk} {s0 s : S} {vs vs1 : List Nat} {t t1 : W → Mo Unit} {tt tt1 : Mo Bool} {mi1 : Mo Wk} {me : Mo RV}
theorem lc2_first (hk0 : k.ok s0) (hk : k.ok s) (ys : γ → List δ) (p : γ → δ → Bool) (f : γ → δ → W) (x : γ) (xs : List γ) (acc : List W)
    (h0 : ∃ s1, (bnd (t (e x)) fun _ => tt) s0 = some (.ok true, s1) ∧ ∃ k1 s2, mi1 s1 = some (.ok k1, s2) ∧ k1.ws = (ys x).map e1 ∧ k1.ok (wipeS vs1 s2) ∧ wipeS vs (wipeS vs1 s2) = s ∧
      ∀ y ∈ ys x, ∃ s4, (bnd (t1 (e1 y)) fun _ => tt1) (wipeS vs1 s2) = some (.ok (p x y), s4) ∧ (p x y = true → ∃ s5, (bnd me fun y => freeze (settle y)) s4 = some (.ok (f x y), s5) ∧ wipeS vs1 s5 = wipeS vs1 s2) ∧ (p x y = false → wipeS vs1 s4 = wipeS vs1 s2))
    (hr : ∀ x ∈ xs, ∃ s1, (bnd (t (e x)) fun _ => tt) s = some (.ok true, s1) ∧ ∃ k1 s2, mi1 s1 = some (.ok k1, s2) ∧ k1.ws = (ys x).map e1 ∧ k1.ok (wipeS vs1 s2) ∧ wipeS vs (wipeS vs1 s2) = s ∧
      ∀ y ∈ ys x, ∃ s4, (bnd (t1 (e1 y)) fun _ => tt1) (wipeS vs1 s2) = some (.ok (p x y), s4) ∧ (p x y = true → ∃ s5, (bnd me fun y => freeze (settle y)) s4 = some (.ok (f x y), s5) ∧ wipeS vs1 s5 = wipeS vs1 s2) ∧ (p x y = false → wipeS vs1 s4 = wipeS vs1 s2))
    (hl : acc.length + ((x :: xs).map fun x => (ys x).length).sum ≤ sz) : lcL2 vs vs1 t tt mi1 t1 tt1 me k ((x :: xs).map e) acc s0 = some (.ok (.own (.lst (acc ++ (x :: xs).flatMap fun x => ((ys x).filter (p x)).map (f x)))), s) := by
  obtain ⟨s1, q1, k1, s2, q2, q3, q4, q5, q6⟩ := h0
  simp only [List.map_cons]
  unfold lcL2
  rw [if_pos hk0, q1]
  simp only [q2, q3]
  simp only [List.map_cons, List.sum_cons] at hl
  have hf : ((ys x).filter (p x)).length ≤ (ys x).length := List.length_filter_le _ _
  rw [lcB_pure q4 (p x) (f x) (ys x) acc q6 (by omega)]
  simp only []
  rw [q5, lc2_pure hk ys p f xs _ hr (by simp; omega)]
  simp
end
end Z
set_option linter.all false
set_option maxRecDepth 100000
set_option maxHeartbeats 4000000
namespace Z
open PySem PySem.Spec PyProof.Rows L2
def longerI (n : Nat) (t : Int) (p : List Int) : List (List Int) := ((List.range n).filter fun (c : Nat) => !decide ((c : Int) ∈ p ++ [t])).map fun (c : Nat) => p ++ [(c : Int)]
def pathsI (n : Nat) (s t : Int) : Nat → List (List Int)
  | 0 => [[s]]
  | i + 1 => (pathsI n s t i).flatMap (longerI n t)
def outI (rs : List (List Int)) (s t : Int) (i : Nat) : List (List Int) := (List.range i).flatMap fun j => ((pathsI rs.length s t (j + 1)).filter fun p => chainB rs (p ++ [t])).map fun p => p ++ [t]
theorem pathsI_len {n : Nat} {s t : Int} (hn : n ≤ 6) : ∀ i, (pathsI n s t i).length ≤ 6 ^ i ∧ ∀ p ∈ pathsI n s t i, p.length = i + 1
  | 0 => ⟨Nat.le_refl _, fun p hp => by rw [List.mem_singleton.mp hp]; rfl⟩
  | i + 1 => by
    obtain ⟨h1, h2⟩ := pathsI_len (s := s) (t := t) hn i
    constructor
    · have : ∀ ps : List (List Int), (ps.flatMap (longerI n t)).length ≤ n * ps.length := fun ps => by
        induction ps with
        | nil => simp
        | cons p ps ih =>
          rw [List.flatMap_cons, List.length_append, List.length_cons, Nat.mul_succ]
          have : (longerI n t p).length ≤ n := by
            unfold longerI
            rw [List.length_map]
            exact Nat.le_trans (List.length_filter_le _ _) (by simp)
          omega
      exact six_mul hn h1 (this _)
    · intro p hp
      obtain ⟨q, hq, hp⟩ := List.mem_flatMap.mp hp
      unfold longerI at hp
      obtain ⟨c, _, rfl⟩ := List.mem_map.mp hp
      simp [h2 q hq]
theorem outI_succ {rs : List (List Int)} {s t : Int} {i : Nat} : outI rs s t (i + 1) = outI rs s t i ++ ((pathsI rs.length s t (i + 1)).filter fun p => chainB rs (p ++ [t])).map fun p => p ++ [t] := by
  unfold outI
  rw [List.range_succ, List.flatMap_append]
  simp
theorem outI_len {rs : List (List Int)} {s t : Int} (h6 : rs.length ≤ 6) : ∀ i, i ≤ 4 → (outI rs s t i).length ≤ 1296 * i
  | 0, _ => by simp [outI]
  | i + 1, h => by
    have := outI_len (rs := rs) (s := s) (t := t) h6 i (by omega)
    rw [outI_succ, List.length_append, List.length_map]
    have h1 := List.length_filter_le (fun p => chainB rs (p ++ [t])) (pathsI rs.length s t (i + 1))
    have h2 := (pathsI_len (s := s) (t := t) h6 (i + 1)).1
    have h3 := six_pow h
    omega
theorem x_keys_or (rs : List (List Int)) (hc : ∀ xs ∈ rs, canon xs = xs) (h6 : rs.length ≤ 6) (ys : List Int) (hl : ys.length ≤ 50) (G : List Cell) : ∃ x : FV, m_chain_keys [lay rs, tupI ys] G = some (.ok x, G) ∧ ((chainB rs ys = true ∧ ∃ l, x = .own (.lst l)) ∨ (chainB rs ys = false ∧ x = .val .non)) := by
  cases h : chainB rs ys with
  | false => exact ⟨_, x_keys_none rs hc h6 ys hl h G, .inr ⟨rfl, rfl⟩⟩
  | true =>
    have hp : isPathB rs.length ys = true := by
      unfold chainB at h
      simp only [Bool.and_eq_true] at h
      exact h.1
    obtain ⟨ps, t, rfl⟩ := path_form hp
    rw [chain_form, hp, Bool.true_and] at h
    have := x_keys rs ps t hc h6 (by
      have : (intsN (ps ++ [t])).length = (ps ++ [t]).length := by simp [intsN]
      rw [List.length_append] at this
      omega) hp G
    rw [h] at this
    exact ⟨_, this, .inl ⟨rfl, _, rfl⟩⟩
abbrev chS (rs : List (List Int)) (s t : Int) (x3 x4 x5 x6 : SV) : S := ⟨[.val (lay rs), .val (.int s), .val (.int t), x3, x4, x5, x6, .non], []⟩
theorem tup_add (p : List Int) (c : Int) (hl : p.length ≤ 50) (s : S) : liftO (fAdd (.tup (p.map W.int)) (.tup [.int c])) s = some (.ok (.val (tupI (p ++ [c]))), s) := by
  rw [addTup (by rw [List.length_map]; show _ + 1 ≤ 16777216; omega)]
  unfold tupI
  rw [List.map_append]
  rfl
theorem ch_longer (rs : List (List Int)) (s t : Int) (h6 : rs.length ≤ 6) (ps : List (List Int)) (hp : ∀ p ∈ ps, p.length ≤ 20) (hl : ps.length ≤ 1296) (x3 x5 : SV) (h3 : (x3 = .own (.lst (rngW 0 rs.length)) ∧ ps ≠ []) ∨ x3 = .val (.lst (rngW 0 rs.length))) :
    lcL2 [6, 7] [7] (tgN 6) mYes (mIter (mName 3)) (tgN 7) (mB (mBin (fIn true) (mName 7) (mBin fAdd (mName 6) (mTup (mCons (mName 2) mNil))))) (mBin fAdd (mName 6) (mTup (mCons (mName 7) mNil))) ⟨ps.map tupI, none⟩ (ps.map tupI) [] (chS rs s t x3 (.val (.lst (ps.map tupI))) x5 .non) =
      some (.ok (.own (.lst ((ps.flatMap (longerI rs.length t)).map tupI))), chS rs s t (.val (.lst (rngW 0 rs.length))) (.val (.lst (ps.map tupI))) x5 .non) := by
  have z1 : 1 ≤ sz := by decide
  have step : ∀ (y3 : SV), (y3 = .own (.lst (rngW 0 rs.length)) ∨ y3 = .val (.lst (rngW 0 rs.length))) → ∀ p ∈ ps, ∃ s1, (bnd (tgN 6 (tupI p)) fun _ => mYes) (chS rs s t y3 (.val (.lst (ps.map tupI))) x5 .non) = some (.ok true, s1) ∧ ∃ k1 s2, mIter (mName 3) s1 = some (.ok k1, s2) ∧ k1.ws = ((fun _ : List Int => List.range rs.length) p).map (fun (c : Nat) => W.int (0 + (c : Int))) ∧ k1.ok (wipeS [7] s2) ∧ wipeS [6, 7] (wipeS [7] s2) = chS rs s t (.val (.lst (rngW 0 rs.length))) (.val (.lst (ps.map tupI))) x5 .non ∧
      ∀ c ∈ (fun _ : List Int => List.range rs.length) p, ∃ s4, (bnd (tgN 7 (W.int (0 + (c : Int)))) fun _ => (mB (mBin (fIn true) (mName 7) (mBin fAdd (mName 6) (mTup (mCons (mName 2) mNil)))))) (wipeS [7] s2) = some (.ok ((fun (p : List Int) (c : Nat) => !decide ((c : Int) ∈ p ++ [t])) p c), s4) ∧
        ((fun (p : List Int) (c : Nat) => !decide ((c : Int) ∈ p ++ [t])) p c = true → ∃ s5, (bnd (mBin fAdd (mName 6) (mTup (mCons (mName 7) mNil))) fun y => freeze (settle y)) s4 = some (.ok ((fun (p : List Int) (c : Nat) => tupI (p ++ [(c : Int)])) p c), s5) ∧ wipeS [7] s5 = wipeS [7] s2) ∧ ((fun (p : List Int) (c : Nat) => !decide ((c : Int) ∈ p ++ [t])) p c = false → wipeS [7] s4 = wipeS [7] s2) := by
    intro y3 hy p hpm
    have pl := hp p hpm
    generalize ps.map tupI = PP
    refine ⟨chS rs s t y3 (.val (.lst PP)) x5 (.val (tupI p)), by simp, ⟨rngW 0 rs.length, none⟩, chS rs s t (.val (.lst (rngW 0 rs.length))) (.val (.lst PP)) x5 (.val (tupI p)), ?_, rng_map, trivial, by simp, fun c _ => ?_⟩
    · rcases hy with rfl | rfl <;> simp
    · have ad := tup_add p t (by omega)
      have ad2 := tup_add p (c : Int) (by omega)
      have fi : fIn true (.int (c : Int)) (tupI (p ++ [t])) = some (.imm (.bl (decide ((c : Int) ∈ p ++ [t]) != true))) := fIn_tupI true (c : Int) (p ++ [t])
      have lk : ∀ r G, look (.val (tupI (p ++ [t]))) ⟨r, G⟩ = some (.ok (tupI (p ++ [t])), ⟨r, G⟩) := fun _ _ => rfl
      refine ⟨⟨[.val (lay rs), .val (.int s), .val (.int t), .val (.lst (rngW 0 rs.length)), .val (.lst PP), x5, .val (tupI p), .val (.int (c : Nat))], []⟩, ?_, fun _ => ⟨⟨[.val (lay rs), .val (.int s), .val (.int t), .val (.lst (rngW 0 rs.length)), .val (.lst PP), x5, .val (tupI p), .val (.int (c : Nat))], []⟩, ?_, by simp⟩, fun _ => by simp⟩
      · show _ = some ((.ok (!decide ((c : Int) ∈ p ++ [t])) : Except Ex Bool), _)
        generalize decide ((c : Int) ∈ p ++ [t]) = bb at fi ⊢
        generalize tupI (p ++ [t]) = PT at ad fi lk
        have hT : tupI p = .tup (p.map W.int) := rfl
        rw [hT]
        simp [ad, fi, z1, lk]
      · show _ = some ((.ok (tupI (p ++ [(c : Int)])) : Except Ex W), _)
        generalize tupI (p ++ [(c : Int)]) = PC at ad2 ⊢
        have hT : tupI p = .tup (p.map W.int) := rfl
        rw [hT]
        simp [ad2, z1]
  have fin : (ps.flatMap fun p => ((List.range rs.length).filter fun (c : Nat) => !decide ((c : Int) ∈ p ++ [t])).map fun (c : Nat) => tupI (p ++ [(c : Int)])) = (ps.flatMap (longerI rs.length t)).map tupI := by
    rw [List.map_flatMap]
    refine congrArg (fun f => ps.flatMap f) (funext fun p => ?_)
    unfold longerI
    rw [List.map_map]
    rfl
  have hsz : ([] : List W).length + (ps.map fun x => ((fun _ : List Int => List.range rs.length) x).length).sum ≤ sz := by
    have : (ps.map fun x => ((fun _ : List Int => List.range rs.length) x).length).sum ≤ 6 * ps.length := by
      clear hp hl h3 step fin
      induction ps with
      | nil => simp
      | cons p ps ih => simp only [List.map_cons, List.sum_cons, List.length_cons, List.length_range] at ih ⊢; omega
    show 0 + _ ≤ 16777216
    omega
  rw [← fin]
  cases ps with
  | nil =>
    rcases h3 with ⟨_, h⟩ | rfl
    · exact absurd rfl h
    · exact lc2_pure (e := tupI) (by exact trivial) (fun _ : List Int => List.range rs.length) (fun (p : List Int) (c : Nat) => !decide ((c : Int) ∈ p ++ [t])) (fun (p : List Int) (c : Nat) => tupI (p ++ [(c : Int)])) [] [] (step _ (.inr rfl)) hsz
  | cons p ps =>
    have h3 : x3 = .own (.lst (rngW 0 rs.length)) ∨ x3 = .val (.lst (rngW 0 rs.length)) := h3.imp (fun z => z.1) id
    exact lc2_first (k := ⟨(p :: ps).map tupI, none⟩) (e := tupI) (e1 := fun (c : Nat) => W.int (0 + (c : Int))) (by exact trivial) (by exact trivial) (fun _ : List Int => List.range rs.length) (fun (p : List Int) (c : Nat) => !decide ((c : Int) ∈ p ++ [t])) (fun (p : List Int) (c : Nat) => tupI (p ++ [(c : Int)])) p ps [] (step _ h3 p List.mem_cons_self) (fun q hq => step _ (.inr rfl) q (List.mem_cons_of_mem _ hq)) hsz
theorem ch_yield (rs : List (List Int)) (hc : ∀ xs ∈ rs, canon xs = xs) (s t : Int) (h6 : rs.length ≤ 6) (x3 x5 : SV) (PP : List W) : ∀ (ps : List (List Int)) (os : List (List Int)), (∀ p ∈ ps, p.length ≤ 20) → os.length + ps.length ≤ 100000 → ∀ x6 : SV, ∃ x6' : SV,
    forG ⟨PP, none⟩ (ps.map tupI) (fun w => mGt (chkG (tgN 6 w)) (mGseq (mGif (chkG (mB (mBin fNotN (mCall 2 m_chain_keys (mCons (mName 0) (mCons (mBin fAdd (mName 6) (mTup (mCons (mName 2) mNil))) mNil))) (mC .non)))) (mGseq (mGy (chkG (mBin fAdd (mName 6) (mTup (mCons (mName 2) mNil))))) mGnil) mGnil) mGnil)) (os.map tupI) (chS rs s t x3 (.val (.lst PP)) x5 x6) =
      some (.ok (.nx, (os ++ ((ps.filter fun p => chainB rs (p ++ [t])).map fun p => p ++ [t])).map tupI), chS rs s t x3 (.val (.lst PP)) x5 x6')
  | [], os, _, _, x6 => ⟨x6, by
    simp only [List.map_nil, List.filter_nil, List.append_nil]
    exact gq_nil⟩
  | p :: ps, os, hp, hl, x6 => by
    have z1 : 1 ≤ sz := by decide
    have pl := hp p List.mem_cons_self
    have ad := tup_add p t (by omega)
    obtain ⟨fv, hk, hv⟩ := x_keys_or rs hc h6 (p ++ [t]) (by simp; omega) []
    have fn : ∀ l, fNotN (.lst l) .non = some (.imm (.bl true)) := fun _ => rfl
    have fn0 : fNotN .non .non = some (.imm (.bl false)) := rfl
    have hT : tupI p = .tup (p.map W.int) := rfl
    have add : mBin fAdd (mName 6) (mTup (mCons (mName 2) mNil)) (chS rs s t x3 (.val (.lst PP)) x5 (.val (tupI p))) = some (.ok (.val (tupI (p ++ [t]))), chS rs s t x3 (.val (.lst PP)) x5 (.val (tupI p))) := by
      rw [hT]
      generalize tupI (p ++ [t]) = PT at ad ⊢
      simp [chS, ad, z1]
    have test : mB (mBin fNotN (mCall 2 m_chain_keys (mCons (mName 0) (mCons (mBin fAdd (mName 6) (mTup (mCons (mName 2) mNil))) mNil))) (mC .non)) (chS rs s t x3 (.val (.lst PP)) x5 (.val (tupI p))) = some (.ok (chainB rs (p ++ [t])), chS rs s t x3 (.val (.lst PP)) x5 (.val (tupI p))) := by
      have lk : ∀ r G, freeze (.val (tupI (p ++ [t]))) ⟨r, G⟩ = some (.ok (tupI (p ++ [t])), ⟨r, G⟩) := fun _ _ => rfl
      rw [hT]
      generalize tupI (p ++ [t]) = PT at ad hk lk
      rcases hv with ⟨e, l, rfl⟩ | ⟨e, rfl⟩
      · rw [e]
        simp [chS, ad, z1, hk, fn]
      · rw [e]
        simp [chS, ad, z1, hk, fn0]
    have small : (os.map tupI).length < sz := by
      rw [List.length_map]
      simp only [List.length_cons] at hl
      show _ < 16777216
      omega
    have e0 : mGt (chkG (tgN 6 (tupI p))) (mGseq (mGif (chkG (mB (mBin fNotN (mCall 2 m_chain_keys (mCons (mName 0) (mCons (mBin fAdd (mName 6) (mTup (mCons (mName 2) mNil))) mNil))) (mC .non)))) (mGseq (mGy (chkG (mBin fAdd (mName 6) (mTup (mCons (mName 2) mNil))))) mGnil) mGnil) mGnil) (os.map tupI) (chS rs s t x3 (.val (.lst PP)) x5 x6) =
        some (.ok (.nx, ((if chainB rs (p ++ [t]) = true then os ++ [p ++ [t]] else os)).map tupI), chS rs s t x3 (.val (.lst PP)) x5 (.val (tupI p))) := by
      rw [gq_t (s' := chS rs s t x3 (.val (.lst PP)) x5 (.val (tupI p))) rfl rfl]
      have hif : mGif (chkG (mB (mBin fNotN (mCall 2 m_chain_keys (mCons (mName 0) (mCons (mBin fAdd (mName 6) (mTup (mCons (mName 2) mNil))) mNil))) (mC .non)))) (mGseq (mGy (chkG (mBin fAdd (mName 6) (mTup (mCons (mName 2) mNil))))) mGnil) mGnil (os.map tupI) (chS rs s t x3 (.val (.lst PP)) x5 (.val (tupI p))) =
          some (.ok (.nx, ((if chainB rs (p ++ [t]) = true then os ++ [p ++ [t]] else os)).map tupI), chS rs s t x3 (.val (.lst PP)) x5 (.val (tupI p))) := by
        rw [gq_if test rfl]
        cases chainB rs (p ++ [t]) with
        | true =>
          rw [if_pos rfl, if_pos rfl, gq_seq (gq_y add rfl small), List.map_append]
          rfl
        | false =>
          rw [if_neg Bool.false_ne_true, if_neg Bool.false_ne_true]
          rfl
      rw [gq_seq hif]
      rfl
    obtain ⟨x6', e1⟩ := ch_yield rs hc s t h6 x3 x5 PP ps (if chainB rs (p ++ [t]) = true then os ++ [p ++ [t]] else os) (fun q hq => hp q (List.mem_cons_of_mem _ hq)) (by
      simp only [List.length_cons] at hl
      split
      · rw [List.length_append, List.length_singleton]; omega
      · omega) (.val (tupI p))
    refine ⟨x6', ?_⟩
    rw [List.map_cons, gq_cons e0, e1]
    cases h : chainB rs (p ++ [t]) <;> simp [List.filter_cons, h]
theorem ch_body (rs : List (List Int)) (hc : ∀ xs ∈ rs, canon xs = xs) (s t : Int) (h1 : 1 ≤ rs.length) (h6 : rs.length ≤ 6) : ∃ sE, b_chains [] ⟨[.val (lay rs), .val (.int s), .val (.int t), .non, .non, .non, .non, .non], []⟩ = some (.ok (.nx, (outI rs s t (rs.length - 2)).map tupI), sE) ∧ sE.G = [] := by
  have rl : Rl 0 (rs.length : Int) := rl_nat (by omega)
  have rk : Rk ((rs.length : Int) - 2) := rk_small (by omega)
  have tn : ((rs.length : Int) - 2).toNat = rs.length - 2 := by omega
  have z1 : 1 ≤ sz := by decide
  have ln := x_len rs []
  have lk := lk_nat (n := rs.length) (by omega)
  unfold b_chains
  have s0 : mAsg 3 (mUn fLr1 (mLenO "Layout" m_Layout___len__ (mCons (mName 0) mNil))) (chS rs s t .non .non .non .non) = some (.ok .nx, chS rs s t (.own (.lst (rngW 0 rs.length))) .non .non .non) := by
    simp [chS, ln, lk, rl, fLr1]
  have s1 : mAsg 4 (mLst (mCons (mTup (mCons (mName 1) mNil)) mNil)) (chS rs s t (.own (.lst (rngW 0 rs.length))) .non .non .non) = some (.ok .nx, chS rs s t (.own (.lst (rngW 0 rs.length))) (.own (.lst ((pathsI rs.length s t 0).map tupI))) .non .non) := by
    have e : (pathsI rs.length s t 0).map tupI = [.tup [.int s]] := rfl
    rw [e]
    simp [chS, z1]
  have s2 : mRng1 (mCons (mBin fSub (mLenO "Layout" m_Layout___len__ (mCons (mName 0) mNil)) (mC (.int 2))) mNil) (chS rs s t (.own (.lst (rngW 0 rs.length))) (.own (.lst ((pathsI rs.length s t 0).map tupI))) .non .non) = some (.ok ⟨rngW 0 (rs.length - 2), none⟩, chS rs s t (.own (.lst (rngW 0 rs.length))) (.own (.lst ((pathsI rs.length s t 0).map tupI))) .non .non) := by
    simp [chS, ln, lk, rk, tn]
  show ∃ sE, mGseq _ _ [] (chS rs s t .non .non .non .non) = _ ∧ _
  rw [gq_seq (gq_p s0 rfl), gq_seq (gq_p s1 rfl)]
  have loop : ∃ ws' sE, forG ⟨rngW 0 (rs.length - 2), none⟩ (rngW 0 (rs.length - 2)) (fun w => mGt (chkG (tgN 5 w)) (mGseq (mGp (chkG (mAsg 4 (mLc2 [6, 7] [7] (mIter (mName 4)) (tgN 6) mYes (mIter (mName 3)) (tgN 7) (mB (mBin (fIn true) (mName 7) (mBin fAdd (mName 6) (mTup (mCons (mName 2) mNil))))) (mBin fAdd (mName 6) (mTup (mCons (mName 7) mNil))))))) (mGseq (mGfor (chkG (mIter (mName 4))) (fun w => chkG (tgN 6 w)) (mGseq (mGif (chkG (mB (mBin fNotN (mCall 2 m_chain_keys (mCons (mName 0) (mCons (mBin fAdd (mName 6) (mTup (mCons (mName 2) mNil))) mNil))) (mC .non)))) (mGseq (mGy (chkG (mBin fAdd (mName 6) (mTup (mCons (mName 2) mNil))))) mGnil) mGnil) mGnil)) mGnil))) ([] : List W) (chS rs s t (.own (.lst (rngW 0 rs.length))) (.own (.lst ((pathsI rs.length s t 0).map tupI))) .non .non) =
      some (.ok (.nx, ws'), sE) ∧ (∃ x3 x4 x5 x6, sE = chS rs s t x3 x4 x5 x6 ∧ ws' = (outI rs s t (rngW 0 (rs.length - 2)).length).map tupI ∧ (x4 = .own (.lst ((pathsI rs.length s t (rngW 0 (rs.length - 2)).length).map tupI)) ∨ x4 = .val (.lst ((pathsI rs.length s t (rngW 0 (rs.length - 2)).length).map tupI))) ∧ ((x3 = .own (.lst (rngW 0 rs.length)) ∧ (rngW 0 (rs.length - 2)).length = 0) ∨ x3 = .val (.lst (rngW 0 rs.length)))) := by
    refine gq_loop (fun i ws st => ∃ x3 x4 x5 x6, st = chS rs s t x3 x4 x5 x6 ∧ ws = (outI rs s t i).map tupI ∧ (x4 = .own (.lst ((pathsI rs.length s t i).map tupI)) ∨ x4 = .val (.lst ((pathsI rs.length s t i).map tupI))) ∧ ((x3 = .own (.lst (rngW 0 rs.length)) ∧ i = 0) ∨ x3 = .val (.lst (rngW 0 rs.length)))) ⟨_, _, _, _, rfl, rfl, .inl rfl, .inl ⟨rfl, rfl⟩⟩ ?_
    rintro i hi ws st ⟨x3, x4, x5, x6, rfl, rfl, h4, h3⟩
    have hi : i < rs.length - 2 := by simpa [rngW] using hi
    have ei : (rngW 0 (rs.length - 2))[i]'(by simpa [rngW] using hi) = W.int i := by simp [rngW]
    rw [ei]
    have pl := pathsI_len (s := s) (t := t) h6 i
    have pl1 := pathsI_len (s := s) (t := t) h6 (i + 1)
    have p6 := six_pow (i := i) (by omega)
    have p61 := six_pow (i := i + 1) (by omega)
    have ol := outI_len (rs := rs) (s := s) (t := t) h6 i (by omega)
    have lg := ch_longer rs s t h6 (pathsI rs.length s t i) (fun p hp => by rw [pl.2 p hp]; omega) (by omega) x3 (.val (.int (i : Nat))) (h3.imp (fun ⟨z, q⟩ => ⟨z, by subst q; simp [pathsI]⟩) id)
    have lg : lcL2 _ _ _ _ _ _ _ _ _ _ _ _ = some (.ok (.own (.lst ((pathsI rs.length s t (i + 1)).map tupI))), _) := lg
    obtain ⟨x6', yl⟩ := ch_yield rs hc s t h6 (.val (.lst (rngW 0 rs.length))) (.val (.int (i : Nat))) ((pathsI rs.length s t (i + 1)).map tupI) (pathsI rs.length s t (i + 1)) (outI rs s t i) (fun p hp => by rw [pl1.2 p hp]; omega) (by omega) .non
    have e1 : mAsg 4 (mLc2 [6, 7] [7] (mIter (mName 4)) (tgN 6) mYes (mIter (mName 3)) (tgN 7) (mB (mBin (fIn true) (mName 7) (mBin fAdd (mName 6) (mTup (mCons (mName 2) mNil))))) (mBin fAdd (mName 6) (mTup (mCons (mName 7) mNil)))) (chS rs s t x3 x4 (.val (.int (i : Nat))) x6) = some (.ok .nx, chS rs s t (.val (.lst (rngW 0 rs.length))) (.own (.lst ((pathsI rs.length s t (i + 1)).map tupI))) (.val (.int (i : Nat))) .non) := by
      generalize (pathsI rs.length s t (i + 1)).map tupI = P1 at lg ⊢
      generalize (pathsI rs.length s t i).map tupI = P0 at lg h4 ⊢
      have lc : mLc2 [6, 7] [7] (mIter (mName 4)) (tgN 6) mYes (mIter (mName 3)) (tgN 7) (mB (mBin (fIn true) (mName 7) (mBin fAdd (mName 6) (mTup (mCons (mName 2) mNil))))) (mBin fAdd (mName 6) (mTup (mCons (mName 7) mNil))) (chS rs s t x3 x4 (.val (.int (i : Nat))) x6) = some (.ok (.own (.lst P1)), chS rs s t (.val (.lst (rngW 0 rs.length))) (.val (.lst P0)) (.val (.int (i : Nat))) .non) := by
        unfold mLc2
        have it : mIter (mName 4) (chS rs s t x3 x4 (.val (.int (i : Nat))) x6) = some (.ok ⟨P0, none⟩, chS rs s t x3 (.val (.lst P0)) (.val (.int (i : Nat))) x6) := by
          rcases h4 with rfl | rfl <;> simp [chS]
        rw [bnd_at it]
        exact lg
      simp only [chS] at lc ⊢
      simp [lc]
    refine ⟨_, _, ?_, .val (.lst (rngW 0 rs.length)), .val (.lst ((pathsI rs.length s t (i + 1)).map tupI)), .val (.int (i : Nat)), x6', rfl, rfl, .inr rfl, .inr rfl⟩
    rw [gq_t (s' := chS rs s t x3 x4 (.val (.int (i : Nat))) x6) rfl rfl, gq_seq (gq_p e1 rfl)]
    have it2 : mIter (mName 4) (chS rs s t (.val (.lst (rngW 0 rs.length))) (.own (.lst ((pathsI rs.length s t (i + 1)).map tupI))) (.val (.int (i : Nat))) .non) = some (.ok ⟨(pathsI rs.length s t (i + 1)).map tupI, none⟩, chS rs s t (.val (.lst (rngW 0 rs.length))) (.val (.lst ((pathsI rs.length s t (i + 1)).map tupI))) (.val (.int (i : Nat))) .non) := by
      generalize (pathsI rs.length s t (i + 1)).map tupI = P1
      simp [chS]
    have f2 := (gq_for (t := fun w => chkG (tgN 6 w)) it2 rfl).trans yl
    rw [gq_seq f2, outI_succ]
    rfl
  obtain ⟨ws', sE, e, x3, x4, x5, x6, rfl, rfl, -, -⟩ := loop
  have f3 := (gq_for (t := fun w => chkG (tgN 5 w)) s2 rfl).trans e
  refine ⟨chS rs s t x3 x4 x5 x6, ?_, rfl⟩
  rw [gq_seq f3]
  have : (rngW 0 (rs.length - 2)).length = rs.length - 2 := by simp [rngW]
  rw [this]
  rfl
theorem x_chains_z (rs : List (List Int)) (hc : ∀ xs ∈ rs, canon xs = xs) (s t : Int) (h1 : 1 ≤ rs.length) (h6 : rs.length ≤ 6) : z_chains [lay rs, .int s, .int t] = some ((outI rs s t (rs.length - 2)).map tupI) := by
  obtain ⟨sE, e, _⟩ := ch_body rs hc s t h1 h6
  show (match b_chains [] ⟨[.val (lay rs), .val (.int s), .val (.int t), .non, .non, .non, .non, .non], []⟩ with
    | some (.ok (.nx, out), s) => some out
    | _ => none) = _
  rw [e]
theorem x_chains_m (rs : List (List Int)) (hc : ∀ xs ∈ rs, canon xs = xs) (s t : Int) (h1 : 1 ≤ rs.length) (h6 : rs.length ≤ 6) : m_chains [lay rs, .int s, .int t] [] = some (.ok ((outI rs s t (rs.length - 2)).map tupI), []) := by
  obtain ⟨sE, e, hG⟩ := ch_body rs hc s t h1 h6
  show (match b_chains [] ⟨[.val (lay rs), .val (.int s), .val (.int t), .non, .non, .non, .non, .non], []⟩ with
    | some (.ok (.nx, out), s) => some ((.ok out : Except Ex (List W)), s.G)
    | some (.error x, s) => some (.error x, s.G)
    | _ => none) = _
  rw [e]
  show some (_, sE.G) = _
  rw [hG]
end Z
set_option linter.all false
set_option maxRecDepth 100000
set_option maxHeartbeats 4000000
namespace Z
open PySem PySem.Spec PyProof.Rows L2
theorem intsN_app (p q : List Nat) : intsN (p ++ q) = intsN p ++ intsN q := by simp [intsN]
theorem intsN_mem {c : Nat} {p : List Nat} : (c : Int) ∈ intsN p ↔ c ∈ p := by
  unfold intsN
  constructor
  · intro h
    obtain ⟨d, hd, e⟩ := List.mem_map.mp h
    have : d = c := by omega
    exact this ▸ hd
  · exact fun h => List.mem_map.mpr ⟨c, h, rfl⟩
theorem longerI_nat {n b : Nat} {p : List Nat} : longerI n (b : Int) (intsN p) = (longer1 n b p).map intsN := by
  unfold longerI longer1
  rw [List.map_map]
  have e : ((List.range n).filter fun (c : Nat) => !decide ((c : Int) ∈ intsN p ++ [(b : Int)])) = (List.range n).filter fun c => !decide (c = b) && !decide (c ∈ p) := by
    refine List.filter_congr fun c _ => ?_
    rw [← Bool.not_or]
    congr 1
    rw [Bool.eq_iff_iff]
    simp only [decide_eq_true_eq, Bool.or_eq_true, List.mem_append, List.mem_singleton, intsN_mem]
    constructor
    · rintro (h | h)
      · exact .inr h
      · exact .inl (by omega)
    · rintro (h | h)
      · exact .inr (by omega)
      · exact .inl h
  rw [e]
  refine List.map_congr_left fun c _ => ?_
  simp [intsN]
theorem pathsI_nat {n a b : Nat} : ∀ i, pathsI n (a : Int) (b : Int) i = (pathsL n a b i).map intsN
  | 0 => rfl
  | i + 1 => by
    show (pathsI n (a : Int) (b : Int) i).flatMap (longerI n b) = (longerL n b (pathsL n a b i)).map intsN
    rw [pathsI_nat i]
    unfold longerL
    rw [List.flatMap_map, List.map_flatMap]
    exact congrArg (fun f => (pathsL n a b i).flatMap f) (funext fun p => longerI_nat)
theorem pathsL_ok {n a b : Nat} (ha : a < n) (hab : a ≠ b) : ∀ i, ∀ p ∈ pathsL n a b i, p.Nodup ∧ b ∉ p
  | 0, p, hp => by
    rw [List.mem_singleton.mp hp]
    exact ⟨by simp, by simp; omega⟩
  | i + 1, p, hp => by
    obtain ⟨q, hq, hp⟩ := List.mem_flatMap.mp (show p ∈ (pathsL n a b i).flatMap (longer1 n b) from hp)
    obtain ⟨h1, h2⟩ := pathsL_ok ha hab i q hq
    unfold longer1 at hp
    obtain ⟨c, hc, rfl⟩ := List.mem_map.mp hp
    have hc := (List.mem_filter.mp hc).2
    simp only [Bool.and_eq_true, Bool.not_eq_true', decide_eq_false_iff_not] at hc
    refine ⟨?_, fun z => ?_⟩
    · rw [List.nodup_append]
      exact ⟨h1, by simp, fun x hx y hy => by rw [List.mem_singleton.mp hy]; exact fun e => hc.2 (e ▸ hx)⟩
    · rcases List.mem_append.mp z with z | z
      · exact h2 z
      · exact hc.1 (List.mem_singleton.mp z).symm
theorem path_true {n : Nat} {p : List Nat} {b : Nat} (h2 : 2 ≤ p.length) (hn : p.Nodup) (hb : b ∉ p) (hp : ∀ c ∈ p, c < n) (hbn : b < n) : isPathB n (intsN (p ++ [b])) = true := by
  unfold isPathB
  simp only [Bool.and_eq_true, decide_eq_true_eq, List.all_eq_true]
  refine ⟨by simp [intsN]; omega, ?_, fun c hc => ?_⟩
  · unfold intsN List.Nodup
    rw [List.pairwise_map]
    have : (p ++ [b]).Nodup := by
      rw [List.nodup_append]
      exact ⟨hn, by simp, fun x hx y hy => by rw [List.mem_singleton.mp hy]; exact fun e => hb (e ▸ hx)⟩
    exact this.imp fun h z => h (by omega)
  · unfold intsN at hc
    obtain ⟨d, hd, rfl⟩ := List.mem_map.mp hc
    rcases List.mem_append.mp hd with hd | hd
    · have := hp d hd; exact ⟨by omega, by omega⟩
    · rw [List.mem_singleton.mp hd]; exact ⟨by omega, by omega⟩
theorem outI_nat {rs : List (List Int)} {a b : Nat} (ha : a < rs.length) (hb : b < rs.length) (hab : a ≠ b) (i : Nat) : outI rs (a : Int) (b : Int) i = (foundL rs a b i).map intsN := by
  unfold outI foundL
  rw [List.map_flatMap]
  refine congrArg (fun f => (List.range i).flatMap f) (funext fun j => ?_)
  rw [pathsI_nat, List.filter_map, List.map_map, List.map_map]
  have e : ((pathsL rs.length a b (j + 1)).filter ((fun p => chainB rs (p ++ [(b : Int)])) ∘ intsN)) = (pathsL rs.length a b (j + 1)).filter fun p => isChain rs p b := by
    refine List.filter_congr fun p hp => ?_
    obtain ⟨h1, h2⟩ := paths_mem (t := b) ha (j + 1) p hp
    obtain ⟨h3, h4⟩ := pathsL_ok ha hab (j + 1) p hp
    show chainB rs (intsN p ++ [(b : Int)]) = _
    have : intsN p ++ [(b : Int)] = intsN (p ++ [b]) := by rw [intsN_app]; rfl
    rw [this, chain_form, path_true (by omega) h3 h4 h2 hb, Bool.true_and]
  rw [e]
  refine List.map_congr_left fun p _ => ?_
  show intsN p ++ [(b : Int)] = intsN (p ++ [b])
  rw [intsN_app]
  rfl
theorem pathsI_head {n : Nat} {s t : Int} : ∀ i, ∀ p ∈ pathsI n s t i, ∃ q, p = s :: q
  | 0, p, hp => ⟨[], List.mem_singleton.mp hp⟩
  | i + 1, p, hp => by
    obtain ⟨q, hq, hp⟩ := List.mem_flatMap.mp (show p ∈ (pathsI n s t i).flatMap (longerI n t) from hp)
    obtain ⟨r, rfl⟩ := pathsI_head i q hq
    unfold longerI at hp
    obtain ⟨c, _, rfl⟩ := List.mem_map.mp hp
    exact ⟨r ++ [(c : Int)], rfl⟩
theorem outI_mem {rs : List (List Int)} {s t : Int} {i : Nat} {y : List Int} (h : y ∈ outI rs s t i) : ∃ q, y = s :: q ∧ 3 ≤ y.length ∧ y.Nodup ∧ (0 ≤ s ∧ s < rs.length) ∧ (0 ≤ t ∧ t < rs.length) ∧ s ≠ t := by
  unfold outI at h
  obtain ⟨j, _, h⟩ := List.mem_flatMap.mp h
  obtain ⟨p, hp, rfl⟩ := List.mem_map.mp h
  obtain ⟨h1, h2⟩ := List.mem_filter.mp hp
  obtain ⟨q, rfl⟩ := pathsI_head _ p h1
  have h2 : isPathB rs.length (s :: q ++ [t]) = true := by
    unfold chainB at h2
    simp only [Bool.and_eq_true] at h2
    exact h2.1
  unfold isPathB at h2
  simp only [Bool.and_eq_true, decide_eq_true_eq, List.all_eq_true] at h2
  obtain ⟨a1, a2, a3⟩ := h2
  refine ⟨q ++ [t], rfl, a1, a2, a3 s (by simp), a3 t (by simp), fun e => ?_⟩
  have a2 : (s :: (q ++ [t])).Nodup := a2
  exact (List.nodup_cons.mp a2).1 (by simp [e])
theorem outI_bad {rs : List (List Int)} {s t : Int} {i : Nat} (h : ¬ ((0 ≤ s ∧ s < rs.length) ∧ (0 ≤ t ∧ t < rs.length) ∧ s ≠ t)) : outI rs s t i = [] := by
  rw [List.eq_nil_iff_forall_not_mem]
  intro y hy
  obtain ⟨q, _, _, _, h1, h2, h3⟩ := outI_mem hy
  exact h ⟨h1, h2, h3⟩
theorem outI_short {rs : List (List Int)} {s t : Int} (h6 : rs.length ≤ 6) {y : List Int} (h : y ∈ outI rs s t (rs.length - 2)) : y.length ≤ 6 := by
  unfold outI at h
  obtain ⟨j, hj, h⟩ := List.mem_flatMap.mp h
  obtain ⟨p, hp, rfl⟩ := List.mem_map.mp h
  have := (pathsI_len (s := s) (t := t) h6 (j + 1)).2 p (List.mem_filter.mp hp).1
  have := List.mem_range.mp hj
  rw [List.length_append, List.length_singleton]
  omega
theorem x_due (rs : List (List Int)) (hc : ∀ xs ∈ rs, canon xs = xs) (h6 : rs.length ≤ 6) (s t : Int) (G : List Cell) : m__law_due [.lst (rs.map lstI), .int s, .int t] G = some (.ok (.own (.lst ((outI rs s t (rs.length - 2)).map tupI))), G) := by
  unfold m__law_due
  rw [fnM_o]
  by_cases h1 : s = t
  · subst h1
    rw [outI_bad (fun z => z.2.2 rfl)]
    simp [b__law_due, fEqD_i]
  by_cases h2 : 0 ≤ s ∧ s < rs.length
  · by_cases h3 : 0 ≤ t ∧ t < rs.length
    · obtain ⟨a, rfl⟩ := Int.eq_ofNat_of_zero_le h2.1
      obtain ⟨b, rfl⟩ := Int.eq_ofNat_of_zero_le h3.1
      have hab : a ≠ b := fun z => h1 (by rw [z])
      have ha : a < rs.length := by omega
      have hb : b < rs.length := by omega
      have e := x_chains rs a b hc (by omega) h6 ha hb G
      have e2 : (foundL rs a b (rs.length - 2)).map natT = (outI rs (a : Int) (b : Int) (rs.length - 2)).map tupI := by
        rw [outI_nat ha hb hab, List.map_map]
        exact List.map_congr_left fun c _ => natT_e c
      rw [e2] at e
      generalize (outI rs (a : Int) (b : Int) (rs.length - 2)).map tupI = OO at e ⊢
      simp [b__law_due, fEqD_i, h1, ha, hb, e]
    · rw [outI_bad (fun z => h3 z.2.1)]
      by_cases h4 : 0 ≤ t
      · have h5 : ¬ t < rs.length := fun z => h3 ⟨h4, z⟩
        simp [b__law_due, fEqD_i, h1, h2.1, h2.2, h4, h5]
      · simp [b__law_due, fEqD_i, h1, h2.1, h2.2, h4]
  · rw [outI_bad (fun z => h2 z.1)]
    by_cases h4 : 0 ≤ s
    · have h5 : ¬ s < rs.length := fun z => h2 ⟨h4, z⟩
      simp [b__law_due, fEqD_i, h1, h4, h5]
    · simp [b__law_due, fEqD_i, h1, h4]
theorem x_sameL (rs : List (List Int)) (hl : rs.length ≤ 100000) (hr : ∀ xs ∈ rs, xs.length ≤ 1000) (G : List Cell) : m__law_same_rows [.lst (rs.map tupI), .lst (rs.map tupI)] G = some (.ok (.val (.bl true)), G) := by
  unfold m__law_same_rows
  rw [fnM_e]
  have hb : Rk (rs.length : Int) := rk_nat (by omega)
  have t1 : tabAt ti_list (.ty "list") = some true := by decide +kernel
  have t2 : tabAt ti_tuple (.ty "tuple") = some true := by decide +kernel
  simp [b__law_same_rows, t1, fNeD_same, hb]
  generalize hF : forL _ _ _ _ = F
  obtain ⟨s', rfl, v2, rfl⟩ := forL_at hF (fun i s => ∃ v2, s = ⟨[.val (.lst (rs.map tupI)), .val (.lst (rs.map tupI)), v2, .non], G⟩) ⟨_, rfl⟩ (by
    rintro i hi s ⟨v2, rfl⟩
    simp [rngW] at hi
    have hi' : i < rs.length := by omega
    have e : atI (rs.map tupI) (i : Int) = some (tupI rs[i]) := atI_nat (by simp [hi'])
    have hne : fNeD (tupI rs[i]) (tupI rs[i]) = some (.imm (.bl false)) := by rw [fNeD_emb emb_row (by decide)]; simp
    have ha := fAll_trues rs[i]
    have hq : rs[i].length ≤ sz := by
      have := hr rs[i] (List.getElem_mem hi')
      show _ ≤ 16777216
      omega
    simp [rngW, e, t2, hne, x_isints _ hq, ha])
  simp
end Z
set_option linter.all false
set_option maxRecDepth 100000
set_option maxHeartbeats 4000000
namespace Z
open PySem PySem.Spec PyProof.Rows L2
theorem nr_args (rs : List (List Int)) (s t : Int) : noRefs [lay rs, .int s, .int t] = true := by
  simp [noRefs, noRef, lay, noRefF, noRefs_masks]
section
variable {x0 : SV} {rs : List (List Int)}
theorem ends_ok (hrl : 1 ≤ rs.length) (h6 : rs.length ≤ 6) (xs : List Int) (hl : xs.length = 5) {x2 x5 x7 x8 x9 x10 x11 x12 : SV} : ∃ (s t : Int), (∀ K : Mo Fl, mSeq law_s4b_s1 (mSeq law_s4b_s2 (mSeq law_s4b_s3 K)) ⟨[x0, .val (.lst (rs.map lstI)), x2, .val (.int (rs.length : Int)), .own (.lst ((linesOf rs).map tupI)), x5, .own (.lst (xs.map W.int)), x7, x8, x9, x10, x11, x12, .non], []⟩ = K ⟨[x0, .val (.lst (rs.map lstI)), x2, .val (.int (rs.length : Int)), .own (.lst ((linesOf rs).map tupI)), x5, .own (.lst (xs.map W.int)), x7, x8, x9, .val (.int s), .val (.int t), x12, .non], []⟩) := by
  obtain ⟨n0, n1, n2, n3, n4, rfl⟩ : ∃ a b c d e, xs = [a, b, c, d, e] := by
    match xs, hl with
    | [a, b, c, d, e], _ => exact ⟨a, b, c, d, e, rfl⟩
  have e0 : atI [W.int n0, W.int n1, W.int n2, W.int n3, W.int n4] 0 = some (.int n0) := atI_nat (j := 0) rfl
  have e1 : atI [W.int n0, W.int n1, W.int n2, W.int n3, W.int n4] 1 = some (.int n1) := atI_nat (j := 1) rfl
  have e2 : atI [W.int n0, W.int n1, W.int n2, W.int n3, W.int n4] 2 = some (.int n2) := atI_nat (j := 2) rfl
  have e3 : atI [W.int n0, W.int n1, W.int n2, W.int n3, W.int n4] 3 = some (.int n3) := atI_nat (j := 3) rfl
  have e4 : atI [W.int n0, W.int n1, W.int n2, W.int n3, W.int n4] 4 = some (.int n4) := atI_nat (j := 4) rfl
  have rp : 0 < rs.length := hrl
  have rp2 : (0 : Int) < (rs.length : Int) + 2 := by omega
  have s1 : law_s4b_s1 ⟨[x0, .val (.lst (rs.map lstI)), x2, .val (.int (rs.length : Int)), .own (.lst ((linesOf rs).map tupI)), x5, .own (.lst [W.int n0, W.int n1, W.int n2, W.int n3, W.int n4]), x7, x8, x9, x10, x11, x12, .non], []⟩ = some (.ok .nx, ⟨[x0, .val (.lst (rs.map lstI)), x2, .val (.int (rs.length : Int)), .own (.lst ((linesOf rs).map tupI)), x5, .own (.lst [W.int n0, W.int n1, W.int n2, W.int n3, W.int n4]), x7, x8, x9, .val (.int (n1 % rs.length)), .val (.int (n2 % rs.length)), x12, .non], []⟩) := by
    simp [law_s4b_s1, e1, e2, rp]
  have nl := fNeD_tups (linesOf rs)
  have s2 : ∃ s t : Int, law_s4b_s2 ⟨[x0, .val (.lst (rs.map lstI)), x2, .val (.int (rs.length : Int)), .own (.lst ((linesOf rs).map tupI)), x5, .own (.lst [W.int n0, W.int n1, W.int n2, W.int n3, W.int n4]), x7, x8, x9, .val (.int (n1 % rs.length)), .val (.int (n2 % rs.length)), x12, .non], []⟩ = some (.ok .nx, ⟨[x0, .val (.lst (rs.map lstI)), x2, .val (.int (rs.length : Int)), .own (.lst ((linesOf rs).map tupI)), x5, .own (.lst [W.int n0, W.int n1, W.int n2, W.int n3, W.int n4]), x7, x8, x9, .val (.int s), .val (.int t), x12, .non], []⟩) := by
    by_cases q : 1 < n0 ∧ linesOf rs ≠ []
    · obtain ⟨l0, lm0, la⟩ := atI_mod (l := (linesOf rs).map tupI) n4 (by simpa using q.2)
      obtain ⟨l1, lm1, rfl⟩ := List.mem_map.mp lm0
      obtain ⟨s, t, rfl, hs, ht⟩ := line_mem lm1
      have ql : 0 < ((linesOf rs).map tupI).length := by
        rw [List.length_map]
        exact List.length_pos_iff.mpr q.2
      have wl : tupI [(s : Int), (t : Int)] = .tup [.int s, .int t] := rfl
      rw [wl] at la
      refine ⟨s, t, ?_⟩
      have q2 : decide (linesOf rs = []) = false := by simpa using q.2
      rw [q2] at nl
      generalize (linesOf rs).map tupI = LL at la nl ql ⊢
      simp [law_s4b_s2, law_s4b_s2a_t0, law_s4b_s2a_s0, e0, e4, q.1, nl, la, ql]
    · refine ⟨n1 % rs.length, n2 % rs.length, ?_⟩
      by_cases q1 : 1 < n0
      · have q2 : linesOf rs = [] := Classical.byContradiction fun h => q ⟨q1, h⟩
        rw [show decide (linesOf rs = []) = true by simpa using q2] at nl
        generalize (linesOf rs).map tupI = LL at nl ⊢
        simp [law_s4b_s2, e0, q1, nl]
      · generalize (linesOf rs).map tupI = LL at nl ⊢
        simp [law_s4b_s2, e0, q1]
  obtain ⟨s, t, s2⟩ := s2
  have s3 : ∃ s' t' : Int, law_s4b_s3 ⟨[x0, .val (.lst (rs.map lstI)), x2, .val (.int (rs.length : Int)), .own (.lst ((linesOf rs).map tupI)), x5, .own (.lst [W.int n0, W.int n1, W.int n2, W.int n3, W.int n4]), x7, x8, x9, .val (.int s), .val (.int t), x12, .non], []⟩ = some (.ok .nx, ⟨[x0, .val (.lst (rs.map lstI)), x2, .val (.int (rs.length : Int)), .own (.lst ((linesOf rs).map tupI)), x5, .own (.lst [W.int n0, W.int n1, W.int n2, W.int n3, W.int n4]), x7, x8, x9, .val (.int s'), .val (.int t'), x12, .non], []⟩) := by
    generalize (linesOf rs).map tupI = LL
    generalize [W.int n0, W.int n1, W.int n2, W.int n3, W.int n4] = XS at e0 e1 e2 e3 ⊢
    by_cases q : n0 = 1
    · by_cases q1 : n1 = 7
      · by_cases q2 : n2 = 7
        · exact ⟨n1 % ((rs.length : Int) + 2) - 1 + n3, -1 - n3, by simp [law_s4b_s3, law_s4b_s3a_t0, law_s4b_s3a_s0, law_s4b_s3a_t1, law_s4b_s3a_s1, law_s4b_s3a_t2, law_s4b_s3a_s2, e0, e1, e2, e3, rp2, fEqD_i, q, q1, q2]⟩
        · exact ⟨n1 % ((rs.length : Int) + 2) - 1 + n3, n2 % ((rs.length : Int) + 2) - 1, by simp [law_s4b_s3, law_s4b_s3a_t0, law_s4b_s3a_s0, law_s4b_s3a_t1, law_s4b_s3a_s1, law_s4b_s3a_t2, law_s4b_s3a_s2, e0, e1, e2, e3, rp2, fEqD_i, q, q1, q2]⟩
      · by_cases q2 : n2 = 7
        · exact ⟨n1 % ((rs.length : Int) + 2) - 1, -1 - n3, by simp [law_s4b_s3, law_s4b_s3a_t0, law_s4b_s3a_s0, law_s4b_s3a_t1, law_s4b_s3a_s1, law_s4b_s3a_t2, law_s4b_s3a_s2, e0, e1, e2, e3, rp2, fEqD_i, q, q1, q2]⟩
        · exact ⟨n1 % ((rs.length : Int) + 2) - 1, n2 % ((rs.length : Int) + 2) - 1, by simp [law_s4b_s3, law_s4b_s3a_t0, law_s4b_s3a_s0, law_s4b_s3a_t1, law_s4b_s3a_s1, law_s4b_s3a_t2, law_s4b_s3a_s2, e0, e1, e2, e3, rp2, fEqD_i, q, q1, q2]⟩
    · exact ⟨s, t, by simp [law_s4b_s3, e0, fEqD_i, q]⟩
  obtain ⟨s', t', s3⟩ := s3
  exact ⟨s', t', fun K => by
    simp only [List.map_cons, List.map_nil]
    rw [seqt s1, seqt s2, seqt s3]⟩
theorem told_ok (hc : ∀ xs ∈ rs, canon xs = xs) (hrl : 1 ≤ rs.length) (h6 : rs.length ≤ 6) (s t : Int) {x5 x6 x7 x9 x12 : SV} : ∃ x9' x12', law_s4b_s7 ⟨[x0, .val (.lst (rs.map lstI)), .val (lay rs), .val (.int (rs.length : Int)), .own (.lst ((linesOf rs).map tupI)), x5, x6, x7, .own (.lst []), x9, .val (.int s), .val (.int t), x12, .non], []⟩ = some (.ok .nx, ⟨[x0, .val (.lst (rs.map lstI)), .val (lay rs), .val (.int (rs.length : Int)), .own (.lst ((linesOf rs).map tupI)), x5, x6, x7, .own (.lst ((outI rs s t (rs.length - 2)).map tupI)), x9', .val (.int s), .val (.int t), x12', .non], []⟩) := by
  have z1 := x_chains_z rs hc s t hrl h6
  have z2 := x_chains_z rs hc t s hrl h6
  have n1 := nr_args rs s t
  have n2 := nr_args rs t s
  have om := fun (y : List Int) (h : y ∈ outI rs t s (rs.length - 2)) => outI_mem h
  have ol : (outI rs s t (rs.length - 2)).length ≤ 10000 := by
    have := outI_len (rs := rs) (s := s) (t := t) h6 (rs.length - 2) (by omega)
    omega
  generalize outI rs t s (rs.length - 2) = O2 at z2 om
  generalize outI rs s t (rs.length - 2) = O1 at z1 ol ⊢
  generalize (linesOf rs).map tupI = LL
  unfold law_s4b_s7
  rw [mForZ_e]
  have args : ∀ (a b : Nat) (y z : Int) (x8 : SV) (x9 x12 : SV), True := fun _ _ _ _ _ _ _ => trivial
  simp [n1, z1]
  generalize hF : forL _ _ _ _ = F
  obtain ⟨s', rfl, x9', x12', rfl⟩ := forL_at hF (fun i st => ∃ x9 x12, st = ⟨[x0, .val (.lst (rs.map lstI)), .val (lay rs), .val (.int (rs.length : Int)), .own (.lst LL), x5, x6, x7, .own (.lst ((O1.take i).map tupI)), x9, .val (.int s), .val (.int t), x12, .non], []⟩) ⟨x9, x12, by simp⟩ (by
    rintro i hi st ⟨x9, x12, rfl⟩
    have hi : i < O1.length := by simpa using hi
    have ei : (O1.map tupI)[i]'(by simpa using hi) = tupI O1[i] := by simp
    rw [ei]
    have small : ((O1.take i).map tupI).length < sz := by
      rw [List.length_map, List.length_take]
      show _ < 16777216
      omega
    have ap : fAppend (.lst ((O1.take i).map tupI)) [tupI O1[i]] = some (.non, .lst ((O1.take (i + 1)).map tupI)) := by
      rw [List.take_succ_eq_append_getElem hi, List.map_append]
      unfold fAppend
      exact if_pos small
    have lk : ∀ r G, freeze (.val (tupI O1[i])) ⟨r, G⟩ = some (.ok (tupI O1[i]), ⟨r, G⟩) := fun _ _ => rfl
    generalize tupI O1[i] = E at ap lk ⊢
    generalize (O1.take i).map tupI = A1 at ap ⊢
    generalize (O1.take (i + 1)).map tupI = A2 at ap ⊢
    cases O2 with
    | nil => exact ⟨⟨[x0, .val (.lst (rs.map lstI)), .val (lay rs), .val (.int (rs.length : Int)), .own (.lst LL), x5, x6, x7, .own (.lst A2), .val E, .val (.int s), .val (.int t), x12, .non], []⟩, by simp [ap, n2, z2, forL, Wk.ok], _, _, rfl⟩
    | cons o os =>
      obtain ⟨q, hq, h3, _⟩ := om o List.mem_cons_self
      have lo : fLen [tupI o] = some (.imm (.int o.length)) := by unfold tupI; rw [fLen_t, List.length_map]
      have h3' : ¬ ((o.length : Int) < 3) := by omega
      have a0 : atI (o.map W.int) 0 = some (.int t) := by rw [hq]; exact atI_nat (j := 0) rfl
      have ne : fNeD (.int t) (.int t) = some (.imm (.bl false)) := by rw [fNeD_i]; simp
      have ix : fIx (tupI o) (.int 0) = some (.imm (.int t)) := by
        unfold tupI
        simp [a0]
      have lk2 : ∀ r G, look (.val (tupI o)) ⟨r, G⟩ = some (.ok (tupI o), ⟨r, G⟩) := fun _ _ => rfl
      rw [List.map_cons] at z2
      generalize os.map tupI = OS at z2
      generalize tupI o = T at lo ix lk2 z2
      exact ⟨⟨[x0, .val (.lst (rs.map lstI)), .val (lay rs), .val (.int (rs.length : Int)), .own (.lst LL), x5, x6, x7, .own (.lst A2), .val E, .val (.int s), .val (.int t), .val T, .non], []⟩, by simp [ap, n2, z2, forL, Wk.ok, lo, h3', ix, lk2, ne], _, _, rfl⟩)
  refine ⟨x9', x12', ?_⟩
  simp
theorem body_ok {ns : List Int} (hc : ∀ xs ∈ rs, canon xs = xs) (hrl : 1 ≤ rs.length) (h6 : rs.length ≤ 6) (n : Nat) {x2 x6 x7 x8 x9 x10 x11 x12 : SV} (hx2 : x2 = .own (layC rs) ∨ x2 = .val (lay rs)) (hx0 : x0 = .val (.frl (ns.map W.int))) (yn : ∀ n : Nat, ∀ G, m__law_cell [.frl (ns.map W.int), .int (n : Int)] G = some (.ok (.val (.int (ns.getD n 0))), G)) :
    ∃ y6 y7 y8 y9 y10 y11 y12, law_s4b_t0 ⟨[x0, .val (.lst (rs.map lstI)), x2, .val (.int (rs.length : Int)), .own (.lst ((linesOf rs).map tupI)), .val (.int (n : Int)), x6, x7, x8, x9, x10, x11, x12, .non], []⟩ = some (.ok .nx, ⟨[x0, .val (.lst (rs.map lstI)), .val (lay rs), .val (.int (rs.length : Int)), .own (.lst ((linesOf rs).map tupI)), .val (.int (n : Int)), y6, y7, y8, y9, y10, y11, y12, .non], []⟩) := by
  obtain ⟨xs, hx, hlen, -⟩ := x_numbers (ns.getD n 0) (5 + (n : Int)) [4, 8, 8, 1000000000, 30] (by decide +kernel) (by decide) []
  have hlen : xs.length = 5 := hlen
  have hx : m__law_numbers [.int (ns.getD n 0), .int (5 + (n : Int)), .lst [.int 4, .int 8, .int 8, .int 1000000000, .int 30]] [] = _ := hx
  have cp : CPow 10 9 := by unfold CPow; constructor <;> decide
  have z5 : 5 ≤ sz := by decide
  have s0 : law_s4b_s0 ⟨[x0, .val (.lst (rs.map lstI)), x2, .val (.int (rs.length : Int)), .own (.lst ((linesOf rs).map tupI)), .val (.int (n : Int)), x6, x7, x8, x9, x10, x11, x12, .non], []⟩ = some (.ok .nx, ⟨[x0, .val (.lst (rs.map lstI)), x2, .val (.int (rs.length : Int)), .own (.lst ((linesOf rs).map tupI)), .val (.int (n : Int)), .own (.lst (xs.map W.int)), x7, x8, x9, x10, x11, x12, .non], []⟩) := by
    subst hx0
    have yn := yn n []
    generalize ns.getD n 0 = cn at yn hx
    generalize (linesOf rs).map tupI = LL
    generalize xs.map W.int = XX at hx ⊢
    simp [law_s4b_s0, yn, cp, hx, z5]
  obtain ⟨s, t, s123⟩ := ends_ok (x0 := x0) hrl h6 xs hlen (x2 := x2) (x5 := .val (.int (n : Int))) (x7 := x7) (x8 := x8) (x9 := x9) (x10 := x10) (x11 := x11) (x12 := x12)
  have du := x_due rs hc h6 s t []
  have cm := x_chains_m rs hc s t hrl h6
  have os : ∀ y ∈ outI rs s t (rs.length - 2), y.length ≤ 1000 := fun y hy => by have := outI_short h6 hy; omega
  have ol : (outI rs s t (rs.length - 2)).length ≤ 100000 := by
    have := outI_len (rs := rs) (s := s) (t := t) h6 (rs.length - 2) (by omega)
    omega
  have sm := x_sameL _ ol os []
  obtain ⟨y9, y12, s7⟩ := told_ok (x0 := x0) hc hrl h6 s t (x5 := .val (.int (n : Int))) (x6 := .own (.lst (xs.map W.int))) (x7 := .val (.lst ((outI rs s t (rs.length - 2)).map tupI))) (x9 := x9) (x12 := x12)
  generalize (outI rs s t (rs.length - 2)).map tupI = OO at du cm sm s7
  generalize xs.map W.int = XX at s0 s123 s7
  have s4 : law_s4b_s4 ⟨[x0, .val (.lst (rs.map lstI)), x2, .val (.int (rs.length : Int)), .own (.lst ((linesOf rs).map tupI)), .val (.int (n : Int)), .own (.lst XX), x7, x8, x9, .val (.int s), .val (.int t), x12, .non], []⟩ = some (.ok .nx, ⟨[x0, .val (.lst (rs.map lstI)), x2, .val (.int (rs.length : Int)), .own (.lst ((linesOf rs).map tupI)), .val (.int (n : Int)), .own (.lst XX), .own (.lst OO), x8, x9, .val (.int s), .val (.int t), x12, .non], []⟩) := by
    generalize (linesOf rs).map tupI = LL
    simp [law_s4b_s4, du]
  have s5 : law_s4b_s5 ⟨[x0, .val (.lst (rs.map lstI)), x2, .val (.int (rs.length : Int)), .own (.lst ((linesOf rs).map tupI)), .val (.int (n : Int)), .own (.lst XX), .own (.lst OO), x8, x9, .val (.int s), .val (.int t), x12, .non], []⟩ = some (.ok .nx, ⟨[x0, .val (.lst (rs.map lstI)), .val (lay rs), .val (.int (rs.length : Int)), .own (.lst ((linesOf rs).map tupI)), .val (.int (n : Int)), .own (.lst XX), .val (.lst OO), x8, x9, .val (.int s), .val (.int t), x12, .non], []⟩) := by
    generalize (linesOf rs).map tupI = LL
    rcases hx2 with rfl | rfl <;> simp [law_s4b_s5, cm, sm]
  have s6 : law_s4b_s6 ⟨[x0, .val (.lst (rs.map lstI)), .val (lay rs), .val (.int (rs.length : Int)), .own (.lst ((linesOf rs).map tupI)), .val (.int (n : Int)), .own (.lst XX), .val (.lst OO), x8, x9, .val (.int s), .val (.int t), x12, .non], []⟩ = some (.ok .nx, ⟨[x0, .val (.lst (rs.map lstI)), .val (lay rs), .val (.int (rs.length : Int)), .own (.lst ((linesOf rs).map tupI)), .val (.int (n : Int)), .own (.lst XX), .val (.lst OO), .own (.lst []), x9, .val (.int s), .val (.int t), x12, .non], []⟩) := by
    generalize (linesOf rs).map tupI = LL
    simp [law_s4b_s6]
  have s8 : law_s4b_s8 ⟨[x0, .val (.lst (rs.map lstI)), .val (lay rs), .val (.int (rs.length : Int)), .own (.lst ((linesOf rs).map tupI)), .val (.int (n : Int)), .own (.lst XX), .val (.lst OO), .own (.lst OO), y9, .val (.int s), .val (.int t), y12, .non], []⟩ = some (.ok .nx, ⟨[x0, .val (.lst (rs.map lstI)), .val (lay rs), .val (.int (rs.length : Int)), .own (.lst ((linesOf rs).map tupI)), .val (.int (n : Int)), .own (.lst XX), .val (.lst OO), .val (.lst OO), y9, .val (.int s), .val (.int t), y12, .non], []⟩) := by
    generalize (linesOf rs).map tupI = LL
    simp [law_s4b_s8, sm]
  refine ⟨.own (.lst XX), .val (.lst OO), .val (.lst OO), y9, .val (.int s), .val (.int t), y12, ?_⟩
  unfold law_s4b_t0
  rw [seqt s0]
  unfold law_s4b_t1 law_s4b_t2 law_s4b_t3
  rw [s123]
  unfold law_s4b_t4
  rw [seqt s4]
  unfold law_s4b_t5
  rw [seqt s5]
  unfold law_s4b_t6
  rw [seqt s6]
  unfold law_s4b_t7
  rw [seqt s7]
  exact s8
end
theorem says : Says m_law := by
  intro ns hl hb
  unfold m_law
  rw [fnM_o]
  have y0 : ∀ G, m__law_cell [.frl (ns.map W.int), .int 0] G = some (.ok (.val (.int (ns.getD 0 0))), G) := fun G => x_cell ns 0 G
  have yn : ∀ n : Nat, ∀ G, m__law_cell [.frl (ns.map W.int), .int (n : Int)] G = some (.ok (.val (.int (ns.getD n 0))), G) := fun n G => x_cell ns n G
  obtain ⟨rs, hrs, hr1, h6', hc⟩ := x_rows (ns.getD 0 0) 1 6 (by omega) (by omega) (by omega) []
  have h6 : rs.length ≤ 6 := by omega
  have hrl : 1 ≤ rs.length := by omega
  have ml := fun r => x_layout (r := r) (G := []) hc hrl (by omega)
  have li := x_law_lines rs (by omega) (fun x hx => by have := canon_len x; rw [hc x hx] at this; omega) []
  have lc := lc_copy (kk := ⟨rs.map lstI, none⟩) (i := 13) (st := fun v => ⟨[.val (.frl (ns.map W.int)), .val (.lst (rs.map lstI)), .non, .non, .non, .non, .non, .non, .non, .non, .non, .non, .non, v], []⟩) rs h6 trivial (fun v => by simp) (fun v => by simp) (fun v => by simp) (fun ys => by simp [fList_lstI, lstI_w])
  rw [law_cut]
  show ∃ G', outF (law_t0 ⟨[.val (.frl (ns.map W.int)), .non, .non, .non, .non, .non, .non, .non, .non, .non, .non, .non, .non, .non], []⟩) = _
  have start : law_t0 ⟨[.val (.frl (ns.map W.int)), .non, .non, .non, .non, .non, .non, .non, .non, .non, .non, .non, .non, .non], []⟩ = law_t4 ⟨[.val (.frl (ns.map W.int)), .val (.lst (rs.map lstI)), .own (layC rs), .val (.int (rs.length : Int)), .own (.lst ((linesOf rs).map tupI)), .non, .non, .non, .non, .non, .non, .non, .non, .non], []⟩ := by
    generalize ns.getD 0 0 = c0 at y0 hrs
    have lk := lk_nat (n := rs.length) (by omega)
    simp [law_t0, law_s0, law_t1, law_s1, law_t2, law_s2, law_t3, law_s3, y0, hrs, ml, lc, li]
  rw [start]
  have rk : Rk 1 ∧ Rk 4 := ⟨rk_small (by omega), rk_small (by omega)⟩
  have s4 : ∃ x2 x5 x6 x7 x8 x9 x10 x11 x12, law_s4 ⟨[.val (.frl (ns.map W.int)), .val (.lst (rs.map lstI)), .own (layC rs), .val (.int (rs.length : Int)), .own (.lst ((linesOf rs).map tupI)), .non, .non, .non, .non, .non, .non, .non, .non, .non], []⟩ = some (.ok .nx, ⟨[.val (.frl (ns.map W.int)), .val (.lst (rs.map lstI)), x2, .val (.int (rs.length : Int)), .own (.lst ((linesOf rs).map tupI)), x5, x6, x7, x8, x9, x10, x11, x12, .non], []⟩) ∧ (x2 = .own (layC rs) ∨ x2 = .val (lay rs)) := by
    have body := fun (n : Nat) (x2 x6 x7 x8 x9 x10 x11 x12 : SV) h2 => body_ok (x0 := .val (.frl (ns.map W.int))) hc hrl h6 n (x2 := x2) (x6 := x6) (x7 := x7) (x8 := x8) (x9 := x9) (x10 := x10) (x11 := x11) (x12 := x12) h2 rfl yn
    generalize (linesOf rs).map tupI = LL at body ⊢
    simp [law_s4, rk]
    generalize hF : forL _ _ _ _ = F
    obtain ⟨s', rfl, x2, x5, x6, x7, x8, x9, x10, x11, x12, rfl, h2⟩ := forL_at hF (fun i s => ∃ x2 x5 x6 x7 x8 x9 x10 x11 x12, s = ⟨[.val (.frl (ns.map W.int)), .val (.lst (rs.map lstI)), x2, .val (.int (rs.length : Int)), .own (.lst LL), x5, x6, x7, x8, x9, x10, x11, x12, .non], []⟩ ∧ (x2 = .own (layC rs) ∨ x2 = .val (lay rs))) ⟨_, _, _, _, _, _, _, _, _, rfl, .inl rfl⟩ (by
      rintro i hi s ⟨x2, x5, x6, x7, x8, x9, x10, x11, x12, rfl, h2⟩
      have hi : i < 3 := by simpa [rngW] using hi
      have ei : (rngW 1 3)[i]'(by simpa [rngW] using hi) = W.int ((i + 1 : Nat) : Int) := by
        simp [rngW]
        omega
      rw [ei]
      obtain ⟨y6, y7, y8, y9, y10, y11, y12, e⟩ := body (i + 1) x2 x6 x7 x8 x9 x10 x11 x12 h2
      exact ⟨⟨[.val (.frl (ns.map W.int)), .val (.lst (rs.map lstI)), .val (lay rs), .val (.int (rs.length : Int)), .own (.lst LL), .val (.int ((i + 1 : Nat) : Int)), y6, y7, y8, y9, y10, y11, y12, .non], []⟩, by
        rw [bnd_at (tgN_e)]
        exact e, _, _, _, _, _, _, _, _, _, rfl, .inr rfl⟩)
    exact ⟨x2, ⟨x5, x6, x7, x8, x9, x10, x11, x12, rfl⟩, h2⟩
  obtain ⟨x2, x5, x6, x7, x8, x9, x10, x11, x12, e4, h2⟩ := s4
  unfold law_t4
  rw [seqt e4]
  have lct : lcL [13] (tgN 13) mYes (mCB fTuple (mCons (mName 13) mNil)) ⟨rs.map lstI, none⟩ (rs.map lstI) [] ⟨[.val (.frl (ns.map W.int)), .val (.lst (rs.map lstI)), .val (lay rs), .val (.int (rs.length : Int)), .own (.lst ((linesOf rs).map tupI)), x5, x6, x7, x8, x9, x10, x11, x12, .non], []⟩ =
      some (.ok (.own (.lst (rs.map tupI))), ⟨[.val (.frl (ns.map W.int)), .val (.lst (rs.map lstI)), .val (lay rs), .val (.int (rs.length : Int)), .own (.lst ((linesOf rs).map tupI)), x5, x6, x7, x8, x9, x10, x11, x12, .non], []⟩) := by
    generalize (linesOf rs).map tupI = LL
    rw [lc_all (by exact trivial) tupI]
    · simp
    · intro xs _
      have ft : fTuple [lstI xs] = some (.newt (xs.map W.int)) := rfl
      have hT : W.tup (xs.map W.int) = tupI xs := rfl
      have lk : ∀ r G, look (.val (lstI xs)) ⟨r, G⟩ = some (.ok (lstI xs), ⟨r, G⟩) := fun _ _ => rfl
      exact ⟨⟨[.val (.frl (ns.map W.int)), .val (.lst (rs.map lstI)), .val (lay rs), .val (.int (rs.length : Int)), .own (.lst LL), x5, x6, x7, x8, x9, x10, x11, x12, .val (lstI xs)], []⟩, by simp, ⟨[.val (.frl (ns.map W.int)), .val (.lst (rs.map lstI)), .val (lay rs), .val (.int (rs.length : Int)), .own (.lst LL), x5, x6, x7, x8, x9, x10, x11, x12, .val (lstI xs)], []⟩, by simp [ft, hT, lk], by simp⟩
    · show 0 + rs.length ≤ 16777216
      omega
  have sm := x_same rs (by omega) (fun x hx => by have := canon_len x; rw [hc x hx] at this; show _ ≤ 16777216; omega) []
  have hz : rs.length ≤ sz := by show _ ≤ 16777216; omega
  generalize (linesOf rs).map tupI = LL at lct ⊢
  rcases h2 with rfl | rfl <;> simp [law_t5, law_s5, x_len, lct, sm, hz, outF]
end Z
namespace Z
open PySem PySem.Spec PyProof.Rows L2
theorem all_mk {l : PySem.W.OpenLaw} {w : World} {K : PySem.W.Frag} {h : Heap} {mg : Str → Option Value} {fa : Addr} (X : K.In h) (G : h.Ns mainGlobals mg) (hfa : mg "law" = some (.ref fa))
    {C_KeeperError C_BadLayout C_BadKey C_NoCopy C_Layout f__law_numbers f__law_row f__law_rows f__law_cell f_Layout___init__ f__law_lines f__law_longer f__law_keys_of f__law_is_chain f__law_chains f__law_due f__law_is_int f__law_same_rows f_Layout___len__ f_is_path f_lowest f_chain_keys f_chains f_Layout___iter__ f_law f_BadKey___init__ : Addr}
    {oc__law_numbers kV__law_numbers dc__law_numbers pm__law_numbers cd__law_numbers ct__law_numbers oc__law_row kV__law_row dc__law_row pm__law_row cd__law_row ct__law_row oc__law_rows kV__law_rows dc__law_rows pm__law_rows cd__law_rows ct__law_rows oc__law_cell kV__law_cell dc__law_cell pm__law_cell cd__law_cell ct__law_cell oc_Layout___init__ kV_Layout___init__ dc_Layout___init__ pm_Layout___init__ cd_Layout___init__ ct_Layout___init__ oc__law_lines kV__law_lines dc__law_lines pm__law_lines cd__law_lines ct__law_lines oc__law_longer kV__law_longer dc__law_longer pm__law_longer cd__law_longer ct__law_longer oc__law_keys_of kV__law_keys_of dc__law_keys_of pm__law_keys_of cd__law_keys_of ct__law_keys_of oc__law_is_chain kV__law_is_chain dc__law_is_chain pm__law_is_chain cd__law_is_chain ct__law_is_chain oc__law_chains kV__law_chains dc__law_chains pm__law_chains cd__law_chains ct__law_chains oc__law_due kV__law_due dc__law_due pm__law_due cd__law_due ct__law_due oc__law_is_int kV__law_is_int dc__law_is_int pm__law_is_int cd__law_is_int ct__law_is_int oc__law_same_rows kV__law_same_rows dc__law_same_rows pm__law_same_rows cd__law_same_rows ct__law_same_rows oc_Layout___len__ kV_Layout___len__ dc_Layout___len__ pm_Layout___len__ cd_Layout___len__ ct_Layout___len__ oc_is_path kV_is_path dc_is_path pm_is_path cd_is_path ct_is_path oc_lowest kV_lowest dc_lowest pm_lowest cd_lowest ct_lowest oc_chain_keys kV_chain_keys dc_chain_keys pm_chain_keys cd_chain_keys ct_chain_keys oc_chains kV_chains dc_chains pm_chains cd_chains ct_chains oc_Layout___iter__ kV_Layout___iter__ dc_Layout___iter__ pm_Layout___iter__ cd_Layout___iter__ ct_Layout___iter__ oc_law kV_law dc_law pm_law cd_law ct_law oc_BadKey___init__ kV_BadKey___init__ dc_BadKey___init__ pm_BadKey___init__ cd_BadKey___init__ ct_BadKey___init__ : Value}
    {od__law_numbers an__law_numbers od__law_row an__law_row od__law_rows an__law_rows od__law_cell an__law_cell od_Layout___init__ an_Layout___init__ od__law_lines an__law_lines od__law_longer an__law_longer od__law_keys_of an__law_keys_of od__law_is_chain an__law_is_chain od__law_chains an__law_chains od__law_due an__law_due od__law_is_int an__law_is_int od__law_same_rows an__law_same_rows od_Layout___len__ an_Layout___len__ od_is_path an_is_path od_lowest an_lowest od_chain_keys an_chain_keys od_chains an_chains od_Layout___iter__ an_Layout___iter__ od_law an_law od_BadKey___init__ an_BadKey___init__ : Option Addr}
    {sl__law_numbers sl__law_row sl__law_rows sl__law_cell sl_Layout___init__ sl__law_lines sl__law_longer sl__law_keys_of sl__law_is_chain sl__law_chains sl__law_due sl__law_is_int sl__law_same_rows sl_Layout___len__ sl_is_path sl_lowest sl_chain_keys sl_chains sl_Layout___iter__ sl_law sl_BadKey___init__ : Array (Option Value)}
    {tk_MOST_COPIES tk_MOST_KEYS : Tok}
    {nm_BadKey qq_BadKey : Str} {N_BadKey : Addr} {bs_BadKey sb_BadKey : List Value} {sn_BadKey : List Str} {ab_BadKey : Bool} {co_BadKey : Option Bool} {dd_BadKey : Option Addr} {m0_BadKey m1_BadKey m2_BadKey m3_BadKey m5_BadKey : Option Value}
    (aC_KeeperError : PySem.W.nsIn K mainGlobals "KeeperError" = some (some (.ref C_KeeperError)))
    (aC_BadLayout : PySem.W.nsIn K mainGlobals "BadLayout" = some (some (.ref C_BadLayout)))
    (aC_BadKey : PySem.W.nsIn K mainGlobals "BadKey" = some (some (.ref C_BadKey)))
    (aC_NoCopy : PySem.W.nsIn K mainGlobals "NoCopy" = some (some (.ref C_NoCopy)))
    (aC_Layout : PySem.W.nsIn K mainGlobals "Layout" = some (some (.ref C_Layout)))
    (xf1_BadKey : PySem.W.findIn K (.ref C_BadKey) "__init__" = some (some (.ref f_BadKey___init__)))
    (a__law_numbers : PySem.W.nsIn K mainGlobals "_law_numbers" = some (some (.ref f__law_numbers)))
    (a__law_row : PySem.W.nsIn K mainGlobals "_law_row" = some (some (.ref f__law_row)))
    (a__law_rows : PySem.W.nsIn K mainGlobals "_law_rows" = some (some (.ref f__law_rows)))
    (a__law_cell : PySem.W.nsIn K mainGlobals "_law_cell" = some (some (.ref f__law_cell)))
    (ma_Layout___init__ : PySem.W.findIn K (.ref C_Layout) "__init__" = some (some (.ref f_Layout___init__)))
    (a__law_lines : PySem.W.nsIn K mainGlobals "_law_lines" = some (some (.ref f__law_lines)))
    (a__law_longer : PySem.W.nsIn K mainGlobals "_law_longer" = some (some (.ref f__law_longer)))
    (a__law_keys_of : PySem.W.nsIn K mainGlobals "_law_keys_of" = some (some (.ref f__law_keys_of)))
    (a__law_is_chain : PySem.W.nsIn K mainGlobals "_law_is_chain" = some (some (.ref f__law_is_chain)))
    (a__law_chains : PySem.W.nsIn K mainGlobals "_law_chains" = some (some (.ref f__law_chains)))
    (a__law_due : PySem.W.nsIn K mainGlobals "_law_due" = some (some (.ref f__law_due)))
    (a__law_is_int : PySem.W.nsIn K mainGlobals "_law_is_int" = some (some (.ref f__law_is_int)))
    (a__law_same_rows : PySem.W.nsIn K mainGlobals "_law_same_rows" = some (some (.ref f__law_same_rows)))
    (ma_Layout___len__ : PySem.W.findIn K (.ref C_Layout) "__len__" = some (some (.ref f_Layout___len__)))
    (a_is_path : PySem.W.nsIn K mainGlobals "is_path" = some (some (.ref f_is_path)))
    (a_lowest : PySem.W.nsIn K mainGlobals "lowest" = some (some (.ref f_lowest)))
    (a_chain_keys : PySem.W.nsIn K mainGlobals "chain_keys" = some (some (.ref f_chain_keys)))
    (a_chains : PySem.W.nsIn K mainGlobals "chains" = some (some (.ref f_chains)))
    (ma_Layout___iter__ : PySem.W.findIn K (.ref C_Layout) "__iter__" = some (some (.ref f_Layout___iter__)))
    (a_law : PySem.W.nsIn K mainGlobals "law" = some (some (.ref f_law)))
    (av_MOST_COPIES : PySem.W.nsIn K mainGlobals "MOST_COPIES" = some (some (.int 6 tk_MOST_COPIES)))
    (av_MOST_KEYS : PySem.W.nsIn K mainGlobals "MOST_KEYS" = some (some (.int 8 tk_MOST_KEYS)))
    (xL_BadKey : K.lookup C_BadKey = some (excClassObj nm_BadKey qq_BadKey C_BadKey N_BadKey bs_BadKey [.ref C_KeeperError, .type "ValueError", .type "Exception", .type "BaseException", .type "object"] true sn_BadKey sb_BadKey ab_BadKey co_BadKey dd_BadKey m0_BadKey m1_BadKey m2_BadKey m3_BadKey m5_BadKey "ValueError.__new__"))
    (l__law_numbers : K.lookup f__law_numbers = some ⟨oc__law_numbers, od__law_numbers, .func (PySem.W.fnOf "_law_numbers" "_law_numbers" (defArgs s__law_numbers) (defBody s__law_numbers) (defScope s__law_numbers) .none kV__law_numbers dc__law_numbers pm__law_numbers an__law_numbers cd__law_numbers ct__law_numbers), sl__law_numbers⟩)
    (l__law_row : K.lookup f__law_row = some ⟨oc__law_row, od__law_row, .func (PySem.W.fnOf "_law_row" "_law_row" (defArgs s__law_row) (defBody s__law_row) (defScope s__law_row) .none kV__law_row dc__law_row pm__law_row an__law_row cd__law_row ct__law_row), sl__law_row⟩)
    (l__law_rows : K.lookup f__law_rows = some ⟨oc__law_rows, od__law_rows, .func (PySem.W.fnOf "_law_rows" "_law_rows" (defArgs s__law_rows) (defBody s__law_rows) (defScope s__law_rows) .none kV__law_rows dc__law_rows pm__law_rows an__law_rows cd__law_rows ct__law_rows), sl__law_rows⟩)
    (l__law_cell : K.lookup f__law_cell = some ⟨oc__law_cell, od__law_cell, .func (PySem.W.fnOf "_law_cell" "_law_cell" (defArgs s__law_cell) (defBody s__law_cell) (defScope s__law_cell) .none kV__law_cell dc__law_cell pm__law_cell an__law_cell cd__law_cell ct__law_cell), sl__law_cell⟩)
    (l_Layout___init__ : K.lookup f_Layout___init__ = some ⟨oc_Layout___init__, od_Layout___init__, .func (PySem.W.fnOf "__init__" "Layout.__init__" (defArgs s_Layout___init__) (defBody s_Layout___init__) (defScope s_Layout___init__) .none kV_Layout___init__ dc_Layout___init__ pm_Layout___init__ an_Layout___init__ cd_Layout___init__ ct_Layout___init__), sl_Layout___init__⟩)
    (l__law_lines : K.lookup f__law_lines = some ⟨oc__law_lines, od__law_lines, .func (PySem.W.fnOf "_law_lines" "_law_lines" (defArgs s__law_lines) (defBody s__law_lines) (defScope s__law_lines) .none kV__law_lines dc__law_lines pm__law_lines an__law_lines cd__law_lines ct__law_lines), sl__law_lines⟩)
    (l__law_longer : K.lookup f__law_longer = some ⟨oc__law_longer, od__law_longer, .func (PySem.W.fnOf "_law_longer" "_law_longer" (defArgs s__law_longer) (defBody s__law_longer) (defScope s__law_longer) .none kV__law_longer dc__law_longer pm__law_longer an__law_longer cd__law_longer ct__law_longer), sl__law_longer⟩)
    (l__law_keys_of : K.lookup f__law_keys_of = some ⟨oc__law_keys_of, od__law_keys_of, .func (PySem.W.fnOf "_law_keys_of" "_law_keys_of" (defArgs s__law_keys_of) (defBody s__law_keys_of) (defScope s__law_keys_of) .none kV__law_keys_of dc__law_keys_of pm__law_keys_of an__law_keys_of cd__law_keys_of ct__law_keys_of), sl__law_keys_of⟩)
    (l__law_is_chain : K.lookup f__law_is_chain = some ⟨oc__law_is_chain, od__law_is_chain, .func (PySem.W.fnOf "_law_is_chain" "_law_is_chain" (defArgs s__law_is_chain) (defBody s__law_is_chain) (defScope s__law_is_chain) .none kV__law_is_chain dc__law_is_chain pm__law_is_chain an__law_is_chain cd__law_is_chain ct__law_is_chain), sl__law_is_chain⟩)
    (l__law_chains : K.lookup f__law_chains = some ⟨oc__law_chains, od__law_chains, .func (PySem.W.fnOf "_law_chains" "_law_chains" (defArgs s__law_chains) (defBody s__law_chains) (defScope s__law_chains) .none kV__law_chains dc__law_chains pm__law_chains an__law_chains cd__law_chains ct__law_chains), sl__law_chains⟩)
    (l__law_due : K.lookup f__law_due = some ⟨oc__law_due, od__law_due, .func (PySem.W.fnOf "_law_due" "_law_due" (defArgs s__law_due) (defBody s__law_due) (defScope s__law_due) .none kV__law_due dc__law_due pm__law_due an__law_due cd__law_due ct__law_due), sl__law_due⟩)
    (l__law_is_int : K.lookup f__law_is_int = some ⟨oc__law_is_int, od__law_is_int, .func (PySem.W.fnOf "_law_is_int" "_law_is_int" (defArgs s__law_is_int) (defBody s__law_is_int) (defScope s__law_is_int) .none kV__law_is_int dc__law_is_int pm__law_is_int an__law_is_int cd__law_is_int ct__law_is_int), sl__law_is_int⟩)
    (l__law_same_rows : K.lookup f__law_same_rows = some ⟨oc__law_same_rows, od__law_same_rows, .func (PySem.W.fnOf "_law_same_rows" "_law_same_rows" (defArgs s__law_same_rows) (defBody s__law_same_rows) (defScope s__law_same_rows) .none kV__law_same_rows dc__law_same_rows pm__law_same_rows an__law_same_rows cd__law_same_rows ct__law_same_rows), sl__law_same_rows⟩)
    (l_Layout___len__ : K.lookup f_Layout___len__ = some ⟨oc_Layout___len__, od_Layout___len__, .func (PySem.W.fnOf "__len__" "Layout.__len__" (defArgs s_Layout___len__) (defBody s_Layout___len__) (defScope s_Layout___len__) .none kV_Layout___len__ dc_Layout___len__ pm_Layout___len__ an_Layout___len__ cd_Layout___len__ ct_Layout___len__), sl_Layout___len__⟩)
    (l_is_path : K.lookup f_is_path = some ⟨oc_is_path, od_is_path, .func (PySem.W.fnOf "is_path" "is_path" (defArgs s_is_path) (defBody s_is_path) (defScope s_is_path) .none kV_is_path dc_is_path pm_is_path an_is_path cd_is_path ct_is_path), sl_is_path⟩)
    (l_lowest : K.lookup f_lowest = some ⟨oc_lowest, od_lowest, .func (PySem.W.fnOf "lowest" "lowest" (defArgs s_lowest) (defBody s_lowest) (defScope s_lowest) .none kV_lowest dc_lowest pm_lowest an_lowest cd_lowest ct_lowest), sl_lowest⟩)
    (l_chain_keys : K.lookup f_chain_keys = some ⟨oc_chain_keys, od_chain_keys, .func (PySem.W.fnOf "chain_keys" "chain_keys" (defArgs s_chain_keys) (defBody s_chain_keys) (defScope s_chain_keys) .none kV_chain_keys dc_chain_keys pm_chain_keys an_chain_keys cd_chain_keys ct_chain_keys), sl_chain_keys⟩)
    (l_chains : K.lookup f_chains = some ⟨oc_chains, od_chains, .func (PySem.W.fnOf "chains" "chains" (defArgs s_chains) (defBody s_chains) (defScope s_chains) .none kV_chains dc_chains pm_chains an_chains cd_chains ct_chains), sl_chains⟩)
    (l_Layout___iter__ : K.lookup f_Layout___iter__ = some ⟨oc_Layout___iter__, od_Layout___iter__, .func (PySem.W.fnOf "__iter__" "Layout.__iter__" (defArgs s_Layout___iter__) (defBody s_Layout___iter__) (defScope s_Layout___iter__) .none kV_Layout___iter__ dc_Layout___iter__ pm_Layout___iter__ an_Layout___iter__ cd_Layout___iter__ ct_Layout___iter__), sl_Layout___iter__⟩)
    (l_law : K.lookup f_law = some ⟨oc_law, od_law, .func (PySem.W.fnOf "law" "law" (defArgs s_law) (defBody s_law) (defScope s_law) .none kV_law dc_law pm_law an_law cd_law ct_law), sl_law⟩)
    (l_BadKey___init__ : K.lookup f_BadKey___init__ = some ⟨oc_BadKey___init__, od_BadKey___init__, .func (PySem.W.fnOf "__init__" "BadKey.__init__" (defArgs s_BadKey___init__) (defBody s_BadKey___init__) (defScope s_BadKey___init__) .none kV_BadKey___init__ dc_BadKey___init__ pm_BadKey___init__ an_BadKey___init__ cd_BadKey___init__ ct_BadKey___init__), sl_BadKey___init__⟩)
    (z_all : PySem.W.nsIn K mainGlobals "all" = some none)
    (z_any : PySem.W.nsIn K mainGlobals "any" = some none)
    (z_bool : PySem.W.nsIn K mainGlobals "bool" = some none)
    (z_int : PySem.W.nsIn K mainGlobals "int" = some none)
    (z_isinstance : PySem.W.nsIn K mainGlobals "isinstance" = some none)
    (z_iter : PySem.W.nsIn K mainGlobals "iter" = some none)
    (z_len : PySem.W.nsIn K mainGlobals "len" = some none)
    (z_list : PySem.W.nsIn K mainGlobals "list" = some none)
    (z_range : PySem.W.nsIn K mainGlobals "range" = some none)
    (z_set : PySem.W.nsIn K mainGlobals "set" = some none)
    (z_sum : PySem.W.nsIn K mainGlobals "sum" = some none)
    (z_tuple : PySem.W.nsIn K mainGlobals "tuple" = some none)
    (kp_KeeperError : PySem.W.keepIn K (.ref C_KeeperError) = true)
    (kp_BadLayout : PySem.W.keepIn K (.ref C_BadLayout) = true)
    (kp_BadKey : PySem.W.keepIn K (.ref C_BadKey) = true)
    (kp_NoCopy : PySem.W.keepIn K (.ref C_NoCopy) = true)
    (kp_Layout : PySem.W.keepIn K (.ref C_Layout) = true)
    (pg_Layout : PySem.W.plainGet K C_Layout Str.empty = true)
    (hd_Layout : PySem.W.hasDictIn K C_Layout = true)
    (po_Layout : PySem.W.plainOver K C_Layout = true)
    (sa_Layout : PySem.W.findIn K (.ref C_Layout) "__setattr__" = some (some (.builtin "object.__setattr__")))
    (mk_Layout : PySem.W.makesIn K C_Layout = true)
    (ha_Layout : PySem.W.findIn K (.ref C_Layout) "__class__" = some (some (.builtin "object.__class__")))
    (hm_Layout : PySem.W.mroIn K C_Layout (.type "object") = some true)
    (me_Layout : PySem.W.kitOne K (.ref C_Layout) (.ref C_Layout) = some true)
    (sp_get : PySem.W.specialIn K (.builtin "object.__class__") "__get__" = some (some (.builtin "getset_descriptor.__get__")))
    (tk_cls : PySem.W.takesIn K (.builtin "object.__class__") = some true)
    (nA_Layout_masks : PySem.W.findIn K (.ref C_Layout) "masks" = some none)
    (nA_Layout_rows : PySem.W.findIn K (.ref C_Layout) "rows" = some none)
    (ik_Layout_bool : PySem.W.kitOne K (.ref C_Layout) (.type "bool") = some false)
    (ik_Layout_int : PySem.W.kitOne K (.ref C_Layout) (.type "int") = some false)
    (ik_Layout_list : PySem.W.kitOne K (.ref C_Layout) (.type "list") = some false)
    (ik_Layout_tuple : PySem.W.kitOne K (.ref C_Layout) (.type "tuple") = some false)
    (xs_BadKey : PySem.W.findIn K (.ref C_BadKey) "__setattr__" = some (some (.builtin "object.__setattr__")))
    (xe_BadKey : PySem.W.subIn K (.ref C_BadKey) (.type "BaseException") = some true)
    (xy_BadKey : PySem.W.typeIn K (.ref C_BadKey) = some (.type "type"))
    (xq_BadKey_key : PySem.W.findIn K (.ref C_BadKey) "key" = some none)
    (xf2_BadKey : PySem.W.typeIn K (.ref f_BadKey___init__) = some (.type "function"))
    (xi_BadLayout : PySem.W.excIn K C_BadLayout [.type "ValueError", .type "Exception", .type "BaseException", .type "object"] "ValueError.__new__" = true)
    (xb_BadLayout : PySem.W.subIn K (.ref C_BadLayout) (.type "BaseException") = some true)
    (xt_BadLayout : PySem.W.typeIn K (.ref C_BadLayout) = some (.type "type"))
    (cc__law_numbers : PySem.W.codeIn K cd__law_numbers "_law_numbers" = true)
    (kk__law_numbers : PySem.W.keepIn K (.ref f__law_numbers) = true)
    (cc__law_row : PySem.W.codeIn K cd__law_row "_law_row" = true)
    (kk__law_row : PySem.W.keepIn K (.ref f__law_row) = true)
    (cc__law_rows : PySem.W.codeIn K cd__law_rows "_law_rows" = true)
    (kk__law_rows : PySem.W.keepIn K (.ref f__law_rows) = true)
    (cc__law_cell : PySem.W.codeIn K cd__law_cell "_law_cell" = true)
    (kk__law_cell : PySem.W.keepIn K (.ref f__law_cell) = true)
    (cc_Layout___init__ : PySem.W.codeIn K cd_Layout___init__ "Layout.__init__" = true)
    (kk_Layout___init__ : PySem.W.keepIn K (.ref f_Layout___init__) = true)
    (mf_Layout___init__ : PySem.W.isFn K (.ref f_Layout___init__) = true)
    (cc__law_lines : PySem.W.codeIn K cd__law_lines "_law_lines" = true)
    (kk__law_lines : PySem.W.keepIn K (.ref f__law_lines) = true)
    (cc__law_longer : PySem.W.codeIn K cd__law_longer "_law_longer" = true)
    (kk__law_longer : PySem.W.keepIn K (.ref f__law_longer) = true)
    (cc__law_keys_of : PySem.W.codeIn K cd__law_keys_of "_law_keys_of" = true)
    (kk__law_keys_of : PySem.W.keepIn K (.ref f__law_keys_of) = true)
    (cc__law_is_chain : PySem.W.codeIn K cd__law_is_chain "_law_is_chain" = true)
    (kk__law_is_chain : PySem.W.keepIn K (.ref f__law_is_chain) = true)
    (cc__law_chains : PySem.W.codeIn K cd__law_chains "_law_chains" = true)
    (kk__law_chains : PySem.W.keepIn K (.ref f__law_chains) = true)
    (cc__law_due : PySem.W.codeIn K cd__law_due "_law_due" = true)
    (kk__law_due : PySem.W.keepIn K (.ref f__law_due) = true)
    (cc__law_is_int : PySem.W.codeIn K cd__law_is_int "_law_is_int" = true)
    (kk__law_is_int : PySem.W.keepIn K (.ref f__law_is_int) = true)
    (cc__law_same_rows : PySem.W.codeIn K cd__law_same_rows "_law_same_rows" = true)
    (kk__law_same_rows : PySem.W.keepIn K (.ref f__law_same_rows) = true)
    (cc_Layout___len__ : PySem.W.codeIn K cd_Layout___len__ "Layout.__len__" = true)
    (kk_Layout___len__ : PySem.W.keepIn K (.ref f_Layout___len__) = true)
    (mf_Layout___len__ : PySem.W.isFn K (.ref f_Layout___len__) = true)
    (cc_is_path : PySem.W.codeIn K cd_is_path "is_path" = true)
    (kk_is_path : PySem.W.keepIn K (.ref f_is_path) = true)
    (cc_lowest : PySem.W.codeIn K cd_lowest "lowest" = true)
    (kk_lowest : PySem.W.keepIn K (.ref f_lowest) = true)
    (cc_chain_keys : PySem.W.codeIn K cd_chain_keys "chain_keys" = true)
    (kk_chain_keys : PySem.W.keepIn K (.ref f_chain_keys) = true)
    (cc_chains : PySem.W.codeIn K cd_chains "chains" = true)
    (kk_chains : PySem.W.keepIn K (.ref f_chains) = true)
    (cc_Layout___iter__ : PySem.W.codeIn K cd_Layout___iter__ "Layout.__iter__" = true)
    (kk_Layout___iter__ : PySem.W.keepIn K (.ref f_Layout___iter__) = true)
    (mf_Layout___iter__ : PySem.W.isFn K (.ref f_Layout___iter__) = true)
    (cc_law : PySem.W.codeIn K cd_law "law" = true)
    (kk_law : PySem.W.keepIn K (.ref f_law) = true)
    (cc_BadKey___init__ : PySem.W.codeIn K cd_BadKey___init__ "BadKey.__init__" = true)
    (kk_BadKey___init__ : PySem.W.keepIn K (.ref f_BadKey___init__) = true)
    : ∃ fd : FuncData, (∀ (s : Shared) (v : Value), BindsTo s fd ⟨[v], []⟩ [("_law_script", v)]) ∧ ∀ base : Heap, K.In base → base.Ns mainGlobals mg → FnOk l.prog w K mg base (L2.CX l.prog w) 9 fa fd ["_law_script"] (spLaw K) := by
  have e : f_law = fa := (Value.ref.inj (Option.some.inj (hfa.symm.trans (PySem.W.mg_of X G a_law)))).symm
  subst e
  have in_Layout : C8.InsC K C_Layout := ⟨⟨pg_Layout, hd_Layout, po_Layout, sa_Layout⟩, ha_Layout, sp_get, tk_cls, hm_Layout, me_Layout⟩
  let T : Tx l.prog K mg := {
    C_KeeperError := C_KeeperError
    C_BadLayout := C_BadLayout
    C_BadKey := C_BadKey
    C_NoCopy := C_NoCopy
    C_Layout := C_Layout
    f__law_numbers := f__law_numbers
    f__law_row := f__law_row
    f__law_rows := f__law_rows
    f__law_cell := f__law_cell
    f_Layout___init__ := f_Layout___init__
    f__law_lines := f__law_lines
    f__law_longer := f__law_longer
    f__law_keys_of := f__law_keys_of
    f__law_is_chain := f__law_is_chain
    f__law_chains := f__law_chains
    f__law_due := f__law_due
    f__law_is_int := f__law_is_int
    f__law_same_rows := f__law_same_rows
    f_Layout___len__ := f_Layout___len__
    f_is_path := f_is_path
    f_lowest := f_lowest
    f_chain_keys := f_chain_keys
    f_chains := f_chains
    f_Layout___iter__ := f_Layout___iter__
    f_law := f_law
    f_BadKey___init__ := f_BadKey___init__
    fd__law_numbers := PySem.W.fnOf "_law_numbers" "_law_numbers" (defArgs s__law_numbers) (defBody s__law_numbers) (defScope s__law_numbers) .none kV__law_numbers dc__law_numbers pm__law_numbers an__law_numbers cd__law_numbers ct__law_numbers
    fd__law_row := PySem.W.fnOf "_law_row" "_law_row" (defArgs s__law_row) (defBody s__law_row) (defScope s__law_row) .none kV__law_row dc__law_row pm__law_row an__law_row cd__law_row ct__law_row
    fd__law_rows := PySem.W.fnOf "_law_rows" "_law_rows" (defArgs s__law_rows) (defBody s__law_rows) (defScope s__law_rows) .none kV__law_rows dc__law_rows pm__law_rows an__law_rows cd__law_rows ct__law_rows
    fd__law_cell := PySem.W.fnOf "_law_cell" "_law_cell" (defArgs s__law_cell) (defBody s__law_cell) (defScope s__law_cell) .none kV__law_cell dc__law_cell pm__law_cell an__law_cell cd__law_cell ct__law_cell
    fd_Layout___init__ := PySem.W.fnOf "__init__" "Layout.__init__" (defArgs s_Layout___init__) (defBody s_Layout___init__) (defScope s_Layout___init__) .none kV_Layout___init__ dc_Layout___init__ pm_Layout___init__ an_Layout___init__ cd_Layout___init__ ct_Layout___init__
    fd__law_lines := PySem.W.fnOf "_law_lines" "_law_lines" (defArgs s__law_lines) (defBody s__law_lines) (defScope s__law_lines) .none kV__law_lines dc__law_lines pm__law_lines an__law_lines cd__law_lines ct__law_lines
    fd__law_longer := PySem.W.fnOf "_law_longer" "_law_longer" (defArgs s__law_longer) (defBody s__law_longer) (defScope s__law_longer) .none kV__law_longer dc__law_longer pm__law_longer an__law_longer cd__law_longer ct__law_longer
    fd__law_keys_of := PySem.W.fnOf "_law_keys_of" "_law_keys_of" (defArgs s__law_keys_of) (defBody s__law_keys_of) (defScope s__law_keys_of) .none kV__law_keys_of dc__law_keys_of pm__law_keys_of an__law_keys_of cd__law_keys_of ct__law_keys_of
    fd__law_is_chain := PySem.W.fnOf "_law_is_chain" "_law_is_chain" (defArgs s__law_is_chain) (defBody s__law_is_chain) (defScope s__law_is_chain) .none kV__law_is_chain dc__law_is_chain pm__law_is_chain an__law_is_chain cd__law_is_chain ct__law_is_chain
    fd__law_chains := PySem.W.fnOf "_law_chains" "_law_chains" (defArgs s__law_chains) (defBody s__law_chains) (defScope s__law_chains) .none kV__law_chains dc__law_chains pm__law_chains an__law_chains cd__law_chains ct__law_chains
    fd__law_due := PySem.W.fnOf "_law_due" "_law_due" (defArgs s__law_due) (defBody s__law_due) (defScope s__law_due) .none kV__law_due dc__law_due pm__law_due an__law_due cd__law_due ct__law_due
    fd__law_is_int := PySem.W.fnOf "_law_is_int" "_law_is_int" (defArgs s__law_is_int) (defBody s__law_is_int) (defScope s__law_is_int) .none kV__law_is_int dc__law_is_int pm__law_is_int an__law_is_int cd__law_is_int ct__law_is_int
    fd__law_same_rows := PySem.W.fnOf "_law_same_rows" "_law_same_rows" (defArgs s__law_same_rows) (defBody s__law_same_rows) (defScope s__law_same_rows) .none kV__law_same_rows dc__law_same_rows pm__law_same_rows an__law_same_rows cd__law_same_rows ct__law_same_rows
    fd_Layout___len__ := PySem.W.fnOf "__len__" "Layout.__len__" (defArgs s_Layout___len__) (defBody s_Layout___len__) (defScope s_Layout___len__) .none kV_Layout___len__ dc_Layout___len__ pm_Layout___len__ an_Layout___len__ cd_Layout___len__ ct_Layout___len__
    fd_is_path := PySem.W.fnOf "is_path" "is_path" (defArgs s_is_path) (defBody s_is_path) (defScope s_is_path) .none kV_is_path dc_is_path pm_is_path an_is_path cd_is_path ct_is_path
    fd_lowest := PySem.W.fnOf "lowest" "lowest" (defArgs s_lowest) (defBody s_lowest) (defScope s_lowest) .none kV_lowest dc_lowest pm_lowest an_lowest cd_lowest ct_lowest
    fd_chain_keys := PySem.W.fnOf "chain_keys" "chain_keys" (defArgs s_chain_keys) (defBody s_chain_keys) (defScope s_chain_keys) .none kV_chain_keys dc_chain_keys pm_chain_keys an_chain_keys cd_chain_keys ct_chain_keys
    fd_chains := PySem.W.fnOf "chains" "chains" (defArgs s_chains) (defBody s_chains) (defScope s_chains) .none kV_chains dc_chains pm_chains an_chains cd_chains ct_chains
    fd_Layout___iter__ := PySem.W.fnOf "__iter__" "Layout.__iter__" (defArgs s_Layout___iter__) (defBody s_Layout___iter__) (defScope s_Layout___iter__) .none kV_Layout___iter__ dc_Layout___iter__ pm_Layout___iter__ an_Layout___iter__ cd_Layout___iter__ ct_Layout___iter__
    fd_law := PySem.W.fnOf "law" "law" (defArgs s_law) (defBody s_law) (defScope s_law) .none kV_law dc_law pm_law an_law cd_law ct_law
    fd_BadKey___init__ := PySem.W.fnOf "__init__" "BadKey.__init__" (defArgs s_BadKey___init__) (defBody s_BadKey___init__) (defScope s_BadKey___init__) .none kV_BadKey___init__ dc_BadKey___init__ pm_BadKey___init__ an_BadKey___init__ cd_BadKey___init__ ct_BadKey___init__
    v_MOST_COPIES := ⟨_, PySem.W.mg_of X G av_MOST_COPIES⟩
    v_MOST_KEYS := ⟨_, PySem.W.mg_of X G av_MOST_KEYS⟩
    n_all := PySem.W.mg_none_of X G z_all
    n_any := PySem.W.mg_none_of X G z_any
    n_bool := PySem.W.mg_none_of X G z_bool
    n_int := PySem.W.mg_none_of X G z_int
    n_isinstance := PySem.W.mg_none_of X G z_isinstance
    n_iter := PySem.W.mg_none_of X G z_iter
    n_len := PySem.W.mg_none_of X G z_len
    n_list := PySem.W.mg_none_of X G z_list
    n_range := PySem.W.mg_none_of X G z_range
    n_set := PySem.W.mg_none_of X G z_set
    n_sum := PySem.W.mg_none_of X G z_sum
    n_tuple := PySem.W.mg_none_of X G z_tuple
    c_KeeperError := PySem.W.mg_of X G aC_KeeperError
    kp_KeeperError := kp_KeeperError
    c_BadLayout := PySem.W.mg_of X G aC_BadLayout
    kp_BadLayout := kp_BadLayout
    c_BadKey := PySem.W.mg_of X G aC_BadKey
    kp_BadKey := kp_BadKey
    c_NoCopy := PySem.W.mg_of X G aC_NoCopy
    kp_NoCopy := kp_NoCopy
    c_Layout := PySem.W.mg_of X G aC_Layout
    kp_Layout := kp_Layout
    cl_Layout := ⟨pg_Layout, hd_Layout, po_Layout, sa_Layout⟩
    mk_Layout := mk_Layout
    nI_Layout := nA_Layout_rows
    in_Layout := ⟨⟨pg_Layout, hd_Layout, po_Layout, sa_Layout⟩, ha_Layout, sp_get, tk_cls, hm_Layout, me_Layout⟩
    fd_masks := (ClsN.cons (PySem.W.mg_of X G aC_Layout) ⟨pg_Layout, hd_Layout, po_Layout, sa_Layout⟩ nA_Layout_masks ClsN.nil)
    fd_rows := (ClsN.cons (PySem.W.mg_of X G aC_Layout) ⟨pg_Layout, hd_Layout, po_Layout, sa_Layout⟩ nA_Layout_rows ClsN.nil)
    ist_bool := (IsTab.ty (kit_ty (by decide +kernel)) (IsTab.ty (kit_ty (by decide +kernel)) (IsTab.ty (kit_ty (by decide +kernel)) (IsTab.ty (kit_ty (by decide +kernel)) (IsTab.ty (kit_ty (by decide +kernel)) (IsTab.ty (kit_ty (by decide +kernel)) (IsTab.ty (kit_ty (by decide +kernel)) (IsTab.ty (kit_ty (by decide +kernel)) (IsTab.own (PySem.W.mg_of X G aC_Layout) in_Layout ik_Layout_bool IsTab.nil)))))))))
    ist_int := (IsTab.ty (kit_ty (by decide +kernel)) (IsTab.ty (kit_ty (by decide +kernel)) (IsTab.ty (kit_ty (by decide +kernel)) (IsTab.ty (kit_ty (by decide +kernel)) (IsTab.ty (kit_ty (by decide +kernel)) (IsTab.ty (kit_ty (by decide +kernel)) (IsTab.ty (kit_ty (by decide +kernel)) (IsTab.ty (kit_ty (by decide +kernel)) (IsTab.own (PySem.W.mg_of X G aC_Layout) in_Layout ik_Layout_int IsTab.nil)))))))))
    ist_list := (IsTab.ty (kit_ty (by decide +kernel)) (IsTab.ty (kit_ty (by decide +kernel)) (IsTab.ty (kit_ty (by decide +kernel)) (IsTab.ty (kit_ty (by decide +kernel)) (IsTab.ty (kit_ty (by decide +kernel)) (IsTab.ty (kit_ty (by decide +kernel)) (IsTab.ty (kit_ty (by decide +kernel)) (IsTab.ty (kit_ty (by decide +kernel)) (IsTab.own (PySem.W.mg_of X G aC_Layout) in_Layout ik_Layout_list IsTab.nil)))))))))
    ist_tuple := (IsTab.ty (kit_ty (by decide +kernel)) (IsTab.ty (kit_ty (by decide +kernel)) (IsTab.ty (kit_ty (by decide +kernel)) (IsTab.ty (kit_ty (by decide +kernel)) (IsTab.ty (kit_ty (by decide +kernel)) (IsTab.ty (kit_ty (by decide +kernel)) (IsTab.ty (kit_ty (by decide +kernel)) (IsTab.ty (kit_ty (by decide +kernel)) (IsTab.own (PySem.W.mg_of X G aC_Layout) in_Layout ik_Layout_tuple IsTab.nil)))))))))
    ox_BadKey := ⟨⟨_, _, _, _, _, _, _, _, _, _, _, _, _, _, _, xL_BadKey, rfl⟩, xs_BadKey, xe_BadKey, xy_BadKey, kp_BadKey⟩
    xn_BadKey := (by intro f hf; simp only [List.mem_cons, List.not_mem_nil, or_false] at hf; rcases hf with rfl; exact xq_BadKey_key)
    xf1_BadKey := xf1_BadKey
    xf2_BadKey := xf2_BadKey
    xi_BadLayout := xi_BadLayout
    xb_BadLayout := xb_BadLayout
    xt_BadLayout := xt_BadLayout
    F__law_numbers := fun_mk l__law_numbers cc__law_numbers kk__law_numbers
    b__law_numbers := (fun_mk (st := s__law_numbers) l__law_numbers cc__law_numbers kk__law_numbers).binds fun _ _ _ _ _ _ us hl => match us, hl with | [_, _, _], _ => rfl
    g__law_numbers := PySem.W.mg_of X G a__law_numbers
    F__law_row := fun_mk l__law_row cc__law_row kk__law_row
    b__law_row := (fun_mk (st := s__law_row) l__law_row cc__law_row kk__law_row).binds fun _ _ _ _ _ _ us hl => match us, hl with | [_, _, _, _], _ => rfl
    g__law_row := PySem.W.mg_of X G a__law_row
    F__law_rows := fun_mk l__law_rows cc__law_rows kk__law_rows
    b__law_rows := (fun_mk (st := s__law_rows) l__law_rows cc__law_rows kk__law_rows).binds fun _ _ _ _ _ _ us hl => match us, hl with | [_, _, _], _ => rfl
    g__law_rows := PySem.W.mg_of X G a__law_rows
    F__law_cell := fun_mk l__law_cell cc__law_cell kk__law_cell
    b__law_cell := (fun_mk (st := s__law_cell) l__law_cell cc__law_cell kk__law_cell).binds fun _ _ _ _ _ _ us hl => match us, hl with | [_, _], _ => rfl
    g__law_cell := PySem.W.mg_of X G a__law_cell
    F_Layout___init__ := fun_mk l_Layout___init__ cc_Layout___init__ kk_Layout___init__
    b_Layout___init__ := (fun_mk (st := s_Layout___init__) l_Layout___init__ cc_Layout___init__ kk_Layout___init__).binds fun _ _ _ _ _ _ us hl => match us, hl with | [_, _], _ => rfl
    mt_Layout___init__ := ⟨ma_Layout___init__, mf_Layout___init__, kk_Layout___init__⟩
    F__law_lines := fun_mk l__law_lines cc__law_lines kk__law_lines
    b__law_lines := (fun_mk (st := s__law_lines) l__law_lines cc__law_lines kk__law_lines).binds fun _ _ _ _ _ _ us hl => match us, hl with | [_], _ => rfl
    g__law_lines := PySem.W.mg_of X G a__law_lines
    F__law_longer := fun_mk l__law_longer cc__law_longer kk__law_longer
    b__law_longer := (fun_mk (st := s__law_longer) l__law_longer cc__law_longer kk__law_longer).binds fun _ _ _ _ _ _ us hl => match us, hl with | [_, _, _], _ => rfl
    g__law_longer := PySem.W.mg_of X G a__law_longer
    F__law_keys_of := fun_mk l__law_keys_of cc__law_keys_of kk__law_keys_of
    b__law_keys_of := (fun_mk (st := s__law_keys_of) l__law_keys_of cc__law_keys_of kk__law_keys_of).binds fun _ _ _ _ _ _ us hl => match us, hl with | [_, _, _, _], _ => rfl
    g__law_keys_of := PySem.W.mg_of X G a__law_keys_of
    F__law_is_chain := fun_mk l__law_is_chain cc__law_is_chain kk__law_is_chain
    b__law_is_chain := (fun_mk (st := s__law_is_chain) l__law_is_chain cc__law_is_chain kk__law_is_chain).binds fun _ _ _ _ _ _ us hl => match us, hl with | [_, _], _ => rfl
    g__law_is_chain := PySem.W.mg_of X G a__law_is_chain
    F__law_chains := fun_mk l__law_chains cc__law_chains kk__law_chains
    b__law_chains := (fun_mk (st := s__law_chains) l__law_chains cc__law_chains kk__law_chains).binds fun _ _ _ _ _ _ us hl => match us, hl with | [_, _, _], _ => rfl
    g__law_chains := PySem.W.mg_of X G a__law_chains
    F__law_due := fun_mk l__law_due cc__law_due kk__law_due
    b__law_due := (fun_mk (st := s__law_due) l__law_due cc__law_due kk__law_due).binds fun _ _ _ _ _ _ us hl => match us, hl with | [_, _, _], _ => rfl
    g__law_due := PySem.W.mg_of X G a__law_due
    F__law_is_int := fun_mk l__law_is_int cc__law_is_int kk__law_is_int
    b__law_is_int := (fun_mk (st := s__law_is_int) l__law_is_int cc__law_is_int kk__law_is_int).binds fun _ _ _ _ _ _ us hl => match us, hl with | [_], _ => rfl
    g__law_is_int := PySem.W.mg_of X G a__law_is_int
    F__law_same_rows := fun_mk l__law_same_rows cc__law_same_rows kk__law_same_rows
    b__law_same_rows := (fun_mk (st := s__law_same_rows) l__law_same_rows cc__law_same_rows kk__law_same_rows).binds fun _ _ _ _ _ _ us hl => match us, hl with | [_, _], _ => rfl
    g__law_same_rows := PySem.W.mg_of X G a__law_same_rows
    F_Layout___len__ := fun_mk l_Layout___len__ cc_Layout___len__ kk_Layout___len__
    b_Layout___len__ := (fun_mk (st := s_Layout___len__) l_Layout___len__ cc_Layout___len__ kk_Layout___len__).binds fun _ _ _ _ _ _ us hl => match us, hl with | [_], _ => rfl
    mt_Layout___len__ := ⟨ma_Layout___len__, mf_Layout___len__, kk_Layout___len__⟩
    F_is_path := fun_mk l_is_path cc_is_path kk_is_path
    b_is_path := (fun_mk (st := s_is_path) l_is_path cc_is_path kk_is_path).binds fun _ _ _ _ _ _ us hl => match us, hl with | [_, _], _ => rfl
    g_is_path := PySem.W.mg_of X G a_is_path
    F_lowest := fun_mk l_lowest cc_lowest kk_lowest
    b_lowest := (fun_mk (st := s_lowest) l_lowest cc_lowest kk_lowest).binds fun _ _ _ _ _ _ us hl => match us, hl with | [_], _ => rfl
    g_lowest := PySem.W.mg_of X G a_lowest
    F_chain_keys := fun_mk l_chain_keys cc_chain_keys kk_chain_keys
    b_chain_keys := (fun_mk (st := s_chain_keys) l_chain_keys cc_chain_keys kk_chain_keys).binds fun _ _ _ _ _ _ us hl => match us, hl with | [_, _], _ => rfl
    g_chain_keys := PySem.W.mg_of X G a_chain_keys
    F_chains := fun_mk l_chains cc_chains kk_chains
    b_chains := (fun_mk (st := s_chains) l_chains cc_chains kk_chains).binds fun _ _ _ _ _ _ us hl => match us, hl with | [_, _, _], _ => rfl
    g_chains := PySem.W.mg_of X G a_chains
    F_Layout___iter__ := fun_mk l_Layout___iter__ cc_Layout___iter__ kk_Layout___iter__
    b_Layout___iter__ := (fun_mk (st := s_Layout___iter__) l_Layout___iter__ cc_Layout___iter__ kk_Layout___iter__).binds fun _ _ _ _ _ _ us hl => match us, hl with | [_], _ => rfl
    mt_Layout___iter__ := ⟨ma_Layout___iter__, mf_Layout___iter__, kk_Layout___iter__⟩
    F_law := fun_mk l_law cc_law kk_law
    b_law := (fun_mk (st := s_law) l_law cc_law kk_law).binds fun _ _ _ _ _ _ us hl => match us, hl with | [_], _ => rfl
    F_BadKey___init__ := fun_mk l_BadKey___init__ cc_BadKey___init__ kk_BadKey___init__
    b_BadKey___init__ := (fun_mk (st := s_BadKey___init__) l_BadKey___init__ cc_BadKey___init__ kk_BadKey___init__).binds fun _ _ _ _ _ _ us hl => match us, hl with | [_, _], _ => rfl
  }
  exact ⟨PySem.W.fnOf "law" "law" (defArgs s_law) (defBody s_law) (defScope s_law) .none kV_law dc_law pm_law an_law cd_law ct_law, fun s v => .of_eq rfl, fun base _ _ => law_end (ok_law T) says⟩
theorem all_z {w : World} {K : PySem.W.Frag} {h : Heap} {mg : Str → Option Value} {fa : Addr} (X : K.In h) (G : h.Ns mainGlobals mg) (hfa : mg "law" = some (.ref fa)) (c : SaysZ chkZ fnZl vsZl K)
    : ∃ fd : FuncData, (∀ (s : Shared) (v : Value), BindsTo s fd ⟨[v], []⟩ [("_law_script", v)]) ∧ ∀ base : Heap, K.In base → base.Ns mainGlobals mg → FnOk PySem.Challenge.rw_partkeepers_k22_chains_in_order.prog w K mg base (L2.CX PySem.Challenge.rw_partkeepers_k22_chains_in_order.prog w) 9 fa fd ["_law_script"] (spLaw K) := by
  have q := c.1
  obtain ⟨k0, q⟩ := He.ba q
  obtain ⟨k1, q⟩ := He.ba q
  have k2 := q
  obtain ⟨oc__law_numbers, od__law_numbers, sl__law_numbers, kV__law_numbers, dc__law_numbers, pm__law_numbers, an__law_numbers, cd__law_numbers, ct__law_numbers, l__law_numbers, cc__law_numbers⟩ := fn_okZ (f := He.ga K "_law_numbers") (n := "_law_numbers") (q := "_law_numbers") (ps := defArgs s__law_numbers) (b := defBody s__law_numbers) (sc := defScope s__law_numbers) (c.fn_ 0 rfl rfl) (ck_at k0 0 rfl)
  obtain ⟨oc__law_row, od__law_row, sl__law_row, kV__law_row, dc__law_row, pm__law_row, an__law_row, cd__law_row, ct__law_row, l__law_row, cc__law_row⟩ := fn_okZ (f := He.ga K "_law_row") (n := "_law_row") (q := "_law_row") (ps := defArgs s__law_row) (b := defBody s__law_row) (sc := defScope s__law_row) (c.fn_ 1 rfl rfl) (ck_at k0 1 rfl)
  obtain ⟨oc__law_rows, od__law_rows, sl__law_rows, kV__law_rows, dc__law_rows, pm__law_rows, an__law_rows, cd__law_rows, ct__law_rows, l__law_rows, cc__law_rows⟩ := fn_okZ (f := He.ga K "_law_rows") (n := "_law_rows") (q := "_law_rows") (ps := defArgs s__law_rows) (b := defBody s__law_rows) (sc := defScope s__law_rows) (c.fn_ 2 rfl rfl) (ck_at k0 2 rfl)
  obtain ⟨oc__law_cell, od__law_cell, sl__law_cell, kV__law_cell, dc__law_cell, pm__law_cell, an__law_cell, cd__law_cell, ct__law_cell, l__law_cell, cc__law_cell⟩ := fn_okZ (f := He.ga K "_law_cell") (n := "_law_cell") (q := "_law_cell") (ps := defArgs s__law_cell) (b := defBody s__law_cell) (sc := defScope s__law_cell) (c.fn_ 3 rfl rfl) (ck_at k0 3 rfl)
  obtain ⟨oc_Layout___init__, od_Layout___init__, sl_Layout___init__, kV_Layout___init__, dc_Layout___init__, pm_Layout___init__, an_Layout___init__, cd_Layout___init__, ct_Layout___init__, l_Layout___init__, cc_Layout___init__⟩ := fn_okZ (f := He.ma K (He.ga K "Layout") "__init__") (n := "__init__") (q := "Layout.__init__") (ps := defArgs s_Layout___init__) (b := defBody s_Layout___init__) (sc := defScope s_Layout___init__) (c.fn_ 4 rfl rfl) (ck_at k0 4 rfl)
  obtain ⟨oc__law_lines, od__law_lines, sl__law_lines, kV__law_lines, dc__law_lines, pm__law_lines, an__law_lines, cd__law_lines, ct__law_lines, l__law_lines, cc__law_lines⟩ := fn_okZ (f := He.ga K "_law_lines") (n := "_law_lines") (q := "_law_lines") (ps := defArgs s__law_lines) (b := defBody s__law_lines) (sc := defScope s__law_lines) (c.fn_ 5 rfl rfl) (ck_at k0 5 rfl)
  obtain ⟨oc__law_longer, od__law_longer, sl__law_longer, kV__law_longer, dc__law_longer, pm__law_longer, an__law_longer, cd__law_longer, ct__law_longer, l__law_longer, cc__law_longer⟩ := fn_okZ (f := He.ga K "_law_longer") (n := "_law_longer") (q := "_law_longer") (ps := defArgs s__law_longer) (b := defBody s__law_longer) (sc := defScope s__law_longer) (c.fn_ 6 rfl rfl) (ck_at k0 6 rfl)
  obtain ⟨oc__law_keys_of, od__law_keys_of, sl__law_keys_of, kV__law_keys_of, dc__law_keys_of, pm__law_keys_of, an__law_keys_of, cd__law_keys_of, ct__law_keys_of, l__law_keys_of, cc__law_keys_of⟩ := fn_okZ (f := He.ga K "_law_keys_of") (n := "_law_keys_of") (q := "_law_keys_of") (ps := defArgs s__law_keys_of) (b := defBody s__law_keys_of) (sc := defScope s__law_keys_of) (c.fn_ 7 rfl rfl) (ck_at k0 7 rfl)
  obtain ⟨oc__law_is_chain, od__law_is_chain, sl__law_is_chain, kV__law_is_chain, dc__law_is_chain, pm__law_is_chain, an__law_is_chain, cd__law_is_chain, ct__law_is_chain, l__law_is_chain, cc__law_is_chain⟩ := fn_okZ (f := He.ga K "_law_is_chain") (n := "_law_is_chain") (q := "_law_is_chain") (ps := defArgs s__law_is_chain) (b := defBody s__law_is_chain) (sc := defScope s__law_is_chain) (c.fn_ 8 rfl rfl) (ck_at k0 8 rfl)
  obtain ⟨oc__law_chains, od__law_chains, sl__law_chains, kV__law_chains, dc__law_chains, pm__law_chains, an__law_chains, cd__law_chains, ct__law_chains, l__law_chains, cc__law_chains⟩ := fn_okZ (f := He.ga K "_law_chains") (n := "_law_chains") (q := "_law_chains") (ps := defArgs s__law_chains) (b := defBody s__law_chains) (sc := defScope s__law_chains) (c.fn_ 9 rfl rfl) (ck_at k0 9 rfl)
  obtain ⟨oc__law_due, od__law_due, sl__law_due, kV__law_due, dc__law_due, pm__law_due, an__law_due, cd__law_due, ct__law_due, l__law_due, cc__law_due⟩ := fn_okZ (f := He.ga K "_law_due") (n := "_law_due") (q := "_law_due") (ps := defArgs s__law_due) (b := defBody s__law_due) (sc := defScope s__law_due) (c.fn_ 10 rfl rfl) (ck_at k0 10 rfl)
  obtain ⟨oc__law_is_int, od__law_is_int, sl__law_is_int, kV__law_is_int, dc__law_is_int, pm__law_is_int, an__law_is_int, cd__law_is_int, ct__law_is_int, l__law_is_int, cc__law_is_int⟩ := fn_okZ (f := He.ga K "_law_is_int") (n := "_law_is_int") (q := "_law_is_int") (ps := defArgs s__law_is_int) (b := defBody s__law_is_int) (sc := defScope s__law_is_int) (c.fn_ 11 rfl rfl) (ck_at k0 11 rfl)
  obtain ⟨oc__law_same_rows, od__law_same_rows, sl__law_same_rows, kV__law_same_rows, dc__law_same_rows, pm__law_same_rows, an__law_same_rows, cd__law_same_rows, ct__law_same_rows, l__law_same_rows, cc__law_same_rows⟩ := fn_okZ (f := He.ga K "_law_same_rows") (n := "_law_same_rows") (q := "_law_same_rows") (ps := defArgs s__law_same_rows) (b := defBody s__law_same_rows) (sc := defScope s__law_same_rows) (c.fn_ 12 rfl rfl) (ck_at k0 12 rfl)
  obtain ⟨oc_Layout___len__, od_Layout___len__, sl_Layout___len__, kV_Layout___len__, dc_Layout___len__, pm_Layout___len__, an_Layout___len__, cd_Layout___len__, ct_Layout___len__, l_Layout___len__, cc_Layout___len__⟩ := fn_okZ (f := He.ma K (He.ga K "Layout") "__len__") (n := "__len__") (q := "Layout.__len__") (ps := defArgs s_Layout___len__) (b := defBody s_Layout___len__) (sc := defScope s_Layout___len__) (c.fn_ 13 rfl rfl) (ck_at k0 13 rfl)
  obtain ⟨oc_is_path, od_is_path, sl_is_path, kV_is_path, dc_is_path, pm_is_path, an_is_path, cd_is_path, ct_is_path, l_is_path, cc_is_path⟩ := fn_okZ (f := He.ga K "is_path") (n := "is_path") (q := "is_path") (ps := defArgs s_is_path) (b := defBody s_is_path) (sc := defScope s_is_path) (c.fn_ 14 rfl rfl) (ck_at k0 14 rfl)
  obtain ⟨oc_lowest, od_lowest, sl_lowest, kV_lowest, dc_lowest, pm_lowest, an_lowest, cd_lowest, ct_lowest, l_lowest, cc_lowest⟩ := fn_okZ (f := He.ga K "lowest") (n := "lowest") (q := "lowest") (ps := defArgs s_lowest) (b := defBody s_lowest) (sc := defScope s_lowest) (c.fn_ 15 rfl rfl) (ck_at k0 15 rfl)
  obtain ⟨oc_chain_keys, od_chain_keys, sl_chain_keys, kV_chain_keys, dc_chain_keys, pm_chain_keys, an_chain_keys, cd_chain_keys, ct_chain_keys, l_chain_keys, cc_chain_keys⟩ := fn_okZ (f := He.ga K "chain_keys") (n := "chain_keys") (q := "chain_keys") (ps := defArgs s_chain_keys) (b := defBody s_chain_keys) (sc := defScope s_chain_keys) (c.fn_ 16 rfl rfl) (ck_at k0 16 rfl)
  obtain ⟨oc_chains, od_chains, sl_chains, kV_chains, dc_chains, pm_chains, an_chains, cd_chains, ct_chains, l_chains, cc_chains⟩ := fn_okZ (f := He.ga K "chains") (n := "chains") (q := "chains") (ps := defArgs s_chains) (b := defBody s_chains) (sc := defScope s_chains) (c.fn_ 17 rfl rfl) (ck_at k0 17 rfl)
  obtain ⟨oc_Layout___iter__, od_Layout___iter__, sl_Layout___iter__, kV_Layout___iter__, dc_Layout___iter__, pm_Layout___iter__, an_Layout___iter__, cd_Layout___iter__, ct_Layout___iter__, l_Layout___iter__, cc_Layout___iter__⟩ := fn_okZ (f := He.ma K (He.ga K "Layout") "__iter__") (n := "__iter__") (q := "Layout.__iter__") (ps := defArgs s_Layout___iter__) (b := defBody s_Layout___iter__) (sc := defScope s_Layout___iter__) (c.fn_ 18 rfl rfl) (ck_at k0 18 rfl)
  obtain ⟨oc_law, od_law, sl_law, kV_law, dc_law, pm_law, an_law, cd_law, ct_law, l_law, cc_law⟩ := fn_okZ (f := He.ga K "law") (n := "law") (q := "law") (ps := defArgs s_law) (b := defBody s_law) (sc := defScope s_law) (c.fn_ 19 rfl rfl) (ck_at k0 19 rfl)
  obtain ⟨oc_BadKey___init__, od_BadKey___init__, sl_BadKey___init__, kV_BadKey___init__, dc_BadKey___init__, pm_BadKey___init__, an_BadKey___init__, cd_BadKey___init__, ct_BadKey___init__, l_BadKey___init__, cc_BadKey___init__⟩ := fn_okZ (f := He.ma K (He.ga K "BadKey") "__init__") (n := "__init__") (q := "BadKey.__init__") (ps := defArgs s_BadKey___init__) (b := defBody s_BadKey___init__) (sc := defScope s_BadKey___init__) (c.fn_ 20 rfl rfl) (ck_at k0 20 rfl)
  obtain ⟨tk_MOST_COPIES, av_MOST_COPIES⟩ := intB_ok (x := "MOST_COPIES") (i := 6) (ck_at k0 21 rfl)
  obtain ⟨tk_MOST_KEYS, av_MOST_KEYS⟩ := intB_ok (x := "MOST_KEYS") (i := 8) (ck_at k0 22 rfl)
  obtain ⟨nm_BadKey, qq_BadKey, N_BadKey, bs_BadKey, sn_BadKey, sb_BadKey, ab_BadKey, co_BadKey, dd_BadKey, m0_BadKey, m1_BadKey, m2_BadKey, m3_BadKey, m5_BadKey, xL_BadKey⟩ := excB_ok (C := He.ga K "BadKey") (bm := [.ref (He.ga K "KeeperError"), .type "ValueError", .type "Exception", .type "BaseException", .type "object"]) (nid := "ValueError.__new__") (ck_at k1 21 rfl)
  exact all_mk (l := PySem.Challenge.rw_partkeepers_k22_chains_in_order) (C_KeeperError := He.ga K "KeeperError") (C_BadLayout := He.ga K "BadLayout") (C_BadKey := He.ga K "BadKey") (C_NoCopy := He.ga K "NoCopy") (C_Layout := He.ga K "Layout") (f__law_numbers := He.ga K "_law_numbers") (f__law_row := He.ga K "_law_row") (f__law_rows := He.ga K "_law_rows") (f__law_cell := He.ga K "_law_cell") (f_Layout___init__ := He.ma K (He.ga K "Layout") "__init__") (f__law_lines := He.ga K "_law_lines") (f__law_longer := He.ga K "_law_longer") (f__law_keys_of := He.ga K "_law_keys_of") (f__law_is_chain := He.ga K "_law_is_chain") (f__law_chains := He.ga K "_law_chains") (f__law_due := He.ga K "_law_due") (f__law_is_int := He.ga K "_law_is_int") (f__law_same_rows := He.ga K "_law_same_rows") (f_Layout___len__ := He.ma K (He.ga K "Layout") "__len__") (f_is_path := He.ga K "is_path") (f_lowest := He.ga K "lowest") (f_chain_keys := He.ga K "chain_keys") (f_chains := He.ga K "chains") (f_Layout___iter__ := He.ma K (He.ga K "Layout") "__iter__") (f_law := He.ga K "law") (f_BadKey___init__ := He.ma K (He.ga K "BadKey") "__init__") X G hfa (ck_d k0 35 rfl) (ck_d k0 37 rfl) (ck_d k0 39 rfl) (ck_d k1 1 rfl) (ck_d k1 3 rfl) (ck_d k1 26 rfl) (ck_d k1 32 rfl) (ck_d k1 34 rfl) (ck_d k1 36 rfl) (ck_d k1 38 rfl) (ck_d k2 0 rfl) (ck_d k2 3 rfl) (ck_d k2 5 rfl) (ck_d k2 7 rfl) (ck_d k2 9 rfl) (ck_d k2 11 rfl) (ck_d k2 13 rfl) (ck_d k2 15 rfl) (ck_d k2 17 rfl) (ck_d k2 19 rfl) (ck_d k2 22 rfl) (ck_d k2 24 rfl) (ck_d k2 26 rfl) (ck_d k2 28 rfl) (ck_d k2 30 rfl) (ck_d k2 33 rfl) av_MOST_COPIES av_MOST_KEYS xL_BadKey l__law_numbers l__law_row l__law_rows l__law_cell l_Layout___init__ l__law_lines l__law_longer l__law_keys_of l__law_is_chain l__law_chains l__law_due l__law_is_int l__law_same_rows l_Layout___len__ l_is_path l_lowest l_chain_keys l_chains l_Layout___iter__ l_law l_BadKey___init__ (ck_d k0 23 rfl) (ck_d k0 24 rfl) (ck_d k0 25 rfl) (ck_d k0 26 rfl) (ck_d k0 27 rfl) (ck_d k0 28 rfl) (ck_d k0 29 rfl) (ck_d k0 30 rfl) (ck_d k0 31 rfl) (ck_d k0 32 rfl) (ck_d k0 33 rfl) (ck_d k0 34 rfl) (ck_d k0 36 rfl) (ck_d k0 38 rfl) (ck_d k1 0 rfl) (ck_d k1 2 rfl) (ck_d k1 4 rfl) (ck_d k1 5 rfl) (ck_d k1 6 rfl) (ck_d k1 7 rfl) (ck_d k1 8 rfl) (ck_d k1 9 rfl) (ck_d k1 10 rfl) (ck_d k1 11 rfl) (ck_d k1 12 rfl) (ck_d k1 13 rfl) (ck_d k1 14 rfl) (ck_d k1 15 rfl) (ck_d k1 16 rfl) (ck_d k1 17 rfl) (ck_d k1 18 rfl) (ck_d k1 19 rfl) (ck_d k1 20 rfl) (ck_d k1 22 rfl) (ck_d k1 23 rfl) (ck_d k1 24 rfl) (ck_d k1 25 rfl) (ck_d k1 27 rfl) (ck_d k1 28 rfl) (ck_d k1 29 rfl) (ck_d k1 30 rfl) cc__law_numbers (ck_d k1 31 rfl) cc__law_row (ck_d k1 33 rfl) cc__law_rows (ck_d k1 35 rfl) cc__law_cell (ck_d k1 37 rfl) cc_Layout___init__ (ck_d k1 39 rfl) (ck_d k2 1 rfl) cc__law_lines (ck_d k2 2 rfl) cc__law_longer (ck_d k2 4 rfl) cc__law_keys_of (ck_d k2 6 rfl) cc__law_is_chain (ck_d k2 8 rfl) cc__law_chains (ck_d k2 10 rfl) cc__law_due (ck_d k2 12 rfl) cc__law_is_int (ck_d k2 14 rfl) cc__law_same_rows (ck_d k2 16 rfl) cc_Layout___len__ (ck_d k2 18 rfl) (ck_d k2 20 rfl) cc_is_path (ck_d k2 21 rfl) cc_lowest (ck_d k2 23 rfl) cc_chain_keys (ck_d k2 25 rfl) cc_chains (ck_d k2 27 rfl) cc_Layout___iter__ (ck_d k2 29 rfl) (ck_d k2 31 rfl) cc_law (ck_d k2 32 rfl) cc_BadKey___init__ (ck_d k2 34 rfl)
end Z
open PySem PySem.W PySem.Calls PyProof.Rows
set_option maxRecDepth 100000 in
set_option maxHeartbeats 0 in
theorem PySem.Challenge.cw_partkeepers_k22_chains_in_order_holds : PySem.Challenge.rw_partkeepers_k22_chains_in_order.Holds := by
  w_on; o_law
  refine HandSHeadRun.head_any (r := (PySem.W.OpenLaw.row PySem.Challenge.rw_partkeepers_k22_chains_in_order)) (q := PySem.W.view (PySem.W.OpenLaw.row PySem.Challenge.rw_partkeepers_k22_chains_in_order).prog [28]) (H := Z.hk) (ob := Z.obZ) (M := 60000) (loose := Z.loose) (d := HandSHeadRun.topDef (PySem.W.OpenLaw.row PySem.Challenge.rw_partkeepers_k22_chains_in_order).prog 28) (kwd := []) (fun s => Z.obsZ_eq (HandSHeadRun.getT_eq s)) (by kernel_rfl) (fun s => by kernel_rfl) Z.runZ (by kernel_rfl) (by kernel_rfl) (by kernel_rfl) (by rfl) (by first | assumption | decide +kernel) (by decide +kernel) ⟨rfl, rfl, rfl, rfl, rfl, by decide +kernel⟩ ?hw ?hc
  case hw => w_witness2
  case hc =>
    refine Z.walkE (l := PySem.Challenge.rw_partkeepers_k22_chains_in_order) (k := 9) (x := "_law_script") rfl (by kernel_rfl) ⟨rfl, by decide, by decide⟩ ?F
    intro w mg fa h Y G hmg0
    obtain ⟨K, KX, c⟩ := Y
    have hmg : mg ("law" : PySem.Str) = some (.ref fa) := by
      have e : (HandSHeadRun.topDef (PySem.W.OpenLaw.row PySem.Challenge.rw_partkeepers_k22_chains_in_order).prog 28).name = ("law" : PySem.Str) := by kernel_rfl
      rw [← e]
      exact hmg0
    exact ⟨K, KX, Z.all_z KX G hmg c⟩
