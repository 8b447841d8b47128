import PyProof.Rows.All
import Wide.All
import OpenK.AllK
import Wide.FinOn
import HandS.ForMost
import HandS.Exc
import HandS.More
import HandS.FStr
import HandS.IsInst
import HandS.SortInts
import HandS.Wide
import HandS.Defaults
import HandS.WordsExc
import HandS.Flow
import HandS.Property
import HandS.ClsMeth
import KE.KExcSuper
import KE.KCallOwn
import HandS.ExcInit
import HandS.ExcField
import HandS.OwnEq
import HandS.Conv
import HandS.Nested
import HandS.ExcSuper
import HandS.HeadNt
import HandS.HeadHook4
import HandS.Text
import KE.KEqDeep
import HandS.Head0
import HandS.Head1
import HandS.Head2
import HandS.HeadEnd
import HandS.EndBits
import PySem.Challenge.RW_lotsintrees_k63_whole_texts_read_back
set_option Elab.async false
set_option linter.all false
set_option maxRecDepth 100000
set_option maxHeartbeats 2000000
set_option autoImplicit false
/-! The S layer: readings told over data. A Ty is what is true of a value in the frozen part F of the heap; cells are the objects that may still change. -/
namespace S
open PySem PySem.Spec PyProof.Rows L2

structure Ty where
  p : V → Hp → Prop
  up : ∀ {v : V} {F F' : Hp}, Same F F' → p v F → p v F'

inductive Tys (F : Hp) : List V → List Ty → Prop
  | nil : Tys F [] []
  | cons {v : V} {t : Ty} {vs : List V} {ts : List Ty} : t.p v F → Tys F vs ts → Tys F (v :: vs) (t :: ts)

section
variable {F F' : Hp} {vs ws : List V} {ts us : List Ty}
theorem Tys.up (e : Same F F') (h : Tys F vs ts) : Tys F' vs ts := by
  induction h with
  | nil => exact .nil
  | cons h _ ih => exact .cons (Ty.up _ e h) ih
theorem Tys.length (h : Tys F vs ts) : vs.length = ts.length := by
  induction h with
  | nil => rfl
  | cons _ _ ih => simp [ih]
theorem Tys.get (h : Tys F vs ts) : ∀ {i : Nat} {t : Ty}, ts[i]? = some t → ∃ v, vs[i]? = some v ∧ t.p v F := by
  induction h with
  | nil => intro i t e; simp at e
  | cons h _ ih =>
    intro i t e
    cases i with
    | zero => simp at e; subst e; exact ⟨_, rfl, h⟩
    | succ i => simpa using ih (i := i) (t := t) (by simpa using e)
theorem Tys.getV (h : Tys F vs ts) : ∀ {i : Nat} {v : V}, vs[i]? = some v → ∃ t, ts[i]? = some t ∧ t.p v F := by
  induction h with
  | nil => intro i t e; simp at e
  | cons h _ ih =>
    intro i t e
    cases i with
    | zero => simp at e; subst e; exact ⟨_, rfl, h⟩
    | succ i => simpa using ih (i := i) (v := t) (by simpa using e)
theorem Tys.append (h : Tys F vs ts) (k : Tys F ws us) : Tys F (vs ++ ws) (ts ++ us) := by
  induction h with
  | nil => exact k
  | cons h _ ih => exact .cons h ih
theorem Tys.take (h : Tys F vs ts) : ∀ n : Nat, Tys F (vs.take n) (ts.take n) := by
  induction h with
  | nil => intro n; simp; exact .nil
  | cons h _ ih =>
    intro n
    cases n with
    | zero => exact .nil
    | succ n => exact .cons h (ih n)
theorem Tys.drop (h : Tys F vs ts) : ∀ n : Nat, Tys F (vs.drop n) (ts.drop n) := by
  induction h with
  | nil => intro n; simp; exact .nil
  | cons h k ih =>
    intro n
    cases n with
    | zero => exact .cons h k
    | succ n => exact ih n
theorem Tys.set (h : Tys F vs ts) {v : V} {t : Ty} (r : t.p v F) : ∀ i : Nat, Tys F (vs.set i v) (ts.set i t) := by
  induction h with
  | nil => intro i; simp; exact .nil
  | cons h k ih =>
    intro i
    cases i with
    | zero => exact .cons r k
    | succ i => exact .cons h (ih i)
theorem Tys.eraseIdx (h : Tys F vs ts) : ∀ i : Nat, Tys F (vs.eraseIdx i) (ts.eraseIdx i) := by
  induction h with
  | nil => intro i; simp; exact .nil
  | cons h k ih =>
    intro i
    cases i with
    | zero => exact k
    | succ i => exact .cons h (ih i)
theorem Tys.reverse (h : Tys F vs ts) : Tys F vs.reverse ts.reverse := by
  induction h with
  | nil => exact .nil
  | cons h _ ih => simpa using ih.append (.cons h .nil)
theorem Tys.one {v : V} {t : Ty} (h : t.p v F) : Tys F [v] [t] := .cons h .nil
theorem Tys.dropLast (h : Tys F vs ts) : Tys F vs.dropLast ts.dropLast := by
  have e := h.length
  rw [List.dropLast_eq_take, List.dropLast_eq_take, e]
  exact h.take _
theorem Tys.isEmpty (h : Tys F vs ts) : vs.isEmpty = ts.isEmpty := by cases h <;> rfl
end

/-! ### kinds of data -/
def dI (i : Int) : Ty := ⟨fun v _ => v = .int i, fun _ h => h⟩
def dS (x : Str) : Ty := ⟨fun v _ => v = .str x, fun _ h => h⟩
def dB (b : Bool) : Ty := ⟨fun v _ => v = .bl b, fun _ h => h⟩
def dN : Ty := ⟨fun v _ => v = .non, fun _ h => h⟩
def dR (a : Addr) : Ty := ⟨fun v _ => v = .ref a, fun _ h => h⟩
/-- a built-in class as a value -/
def dY (n : String) : Ty := ⟨fun v _ => v = .ty n, fun _ h => h⟩
def dL (ts : List Ty) : Ty := ⟨fun v F => ∃ a vs, v = .ref a ∧ F a = some (.lst vs) ∧ Tys F vs ts, fun e ⟨a, vs, h1, h2, h3⟩ => ⟨a, vs, h1, e _ _ h2, h3.up e⟩⟩
def dT (ts : List Ty) : Ty := ⟨fun v F => ∃ a vs, v = .ref a ∧ F a = some (.tup vs) ∧ Tys F vs ts, fun e ⟨a, vs, h1, h2, h3⟩ => ⟨a, vs, h1, e _ _ h2, h3.up e⟩⟩
structure Flds (F : Hp) (fvs : List (Str × V)) (fs : List (Str × Ty)) : Prop where
  nm : fvs.map (·.1) = fs.map (·.1)
  ty : Tys F (fvs.map (·.2)) (fs.map (·.2))
theorem Flds.up {F F' : Hp} {fvs : List (Str × V)} {fs : List (Str × Ty)} (e : Same F F') (h : Flds F fvs fs) : Flds F' fvs fs := ⟨h.nm, h.ty.up e⟩
def dO (C : Addr) (fs : List (Str × Ty)) : Ty := ⟨fun v F => ∃ a dx fvs, v = .ref a ∧ F a = some (.ins C dx fvs) ∧ Flds F fvs fs, fun e ⟨a, dx, fvs, h1, h2, h3⟩ => ⟨a, dx, fvs, h1, e _ _ h2, h3.up e⟩⟩
/-- the script: known to the object, read alone -/
def dF (ts : List Ty) : Ty := ⟨fun v F => ∃ a o vs, v = .ref a ∧ F a = some (.frz o (.lst vs)) ∧ Tys F vs ts, fun e ⟨a, o, vs, h1, h2, h3⟩ => ⟨a, o, vs, h1, e _ _ h2, h3.up e⟩⟩

theorem Flds.nil {F : Hp} : Flds F [] [] := ⟨rfl, .nil⟩
theorem Flds.look {F : Hp} : ∀ {fvs : List (Str × V)} {fs : List (Str × Ty)}, Flds F fvs fs → ∀ {f : Str} {t : Ty}, fs.lookup f = some t → ∃ v, fvs.lookup f = some v ∧ t.p v F
  | [], [], _, f, t, e => by simp at e
  | [], _ :: _, h, _, _, _ => by have := h.nm; simp at this
  | _ :: _, [], h, _, _, _ => by have := h.nm; simp at this
  | (g, v) :: fvs, (g', u) :: fs, h, f, t, e => by
    have h1 := h.nm
    have h2 := h.ty
    simp only [List.map_cons, List.cons.injEq] at h1
    obtain ⟨rfl, h1⟩ := h1
    simp only [List.map_cons] at h2
    cases h2 with
    | cons hv ht =>
      rw [List.lookup_cons] at e ⊢
      by_cases hb : (f == g) = true
      · rw [hb] at e ⊢
        cases e
        exact ⟨_, rfl, hv⟩
      · rw [Bool.not_eq_true] at hb
        rw [hb] at e ⊢
        exact Flds.look ⟨h1, ht⟩ e
theorem Flds.no {F : Hp} {fvs : List (Str × V)} {fs : List (Str × Ty)} (h : Flds F fvs fs) {f : Str} (e : fs.lookup f = none) : fvs.lookup f = none := by
  have key : ∀ {α : Type} (l : List (Str × α)), l.lookup f = none ↔ ∀ x ∈ l.map (·.1), (f == x) = false := fun {α} l => by
    induction l with
    | nil => simp
    | cons p l ih =>
      obtain ⟨g, x⟩ := p
      rw [List.lookup_cons, List.map_cons, List.forall_mem_cons]
      cases hb : (f == g) with
      | true => simp
      | false => simpa using ih
  rw [key] at e ⊢
  rw [h.nm]
  exact e
def putT (f : Str) (t : Ty) : List (Str × Ty) → List (Str × Ty)
  | [] => [(f, t)]
  | (g, x) :: r => if g = f then (g, t) :: r else (g, x) :: putT f t r
theorem Flds.put {F : Hp} {f : Str} {v : V} {t : Ty} (r : t.p v F) : ∀ {fvs : List (Str × V)} {fs : List (Str × Ty)}, Flds F fvs fs → Flds F (putF f v fvs) (putT f t fs)
  | [], [], _ => ⟨rfl, .cons r .nil⟩
  | [], _ :: _, h => by have := h.nm; simp at this
  | _ :: _, [], h => by have := h.nm; simp at this
  | (g, v') :: fvs, (g', u) :: fs, h => by
    have h1 := h.nm
    have h2 := h.ty
    simp only [List.map_cons, List.cons.injEq] at h1
    obtain ⟨rfl, h1⟩ := h1
    simp only [List.map_cons] at h2
    cases h2 with
    | cons hv ht =>
      unfold putF putT
      by_cases e : g = f
      · rw [if_pos e, if_pos e]
        exact ⟨by simp [h1], .cons r ht⟩
      · rw [if_neg e, if_neg e]
        have ih := Flds.put (f := f) r (fvs := fvs) (fs := fs) ⟨h1, ht⟩
        exact ⟨by simp [ih.nm], .cons hv ih.ty⟩
theorem Flds.length {F : Hp} {fvs : List (Str × V)} {fs : List (Str × Ty)} (h : Flds F fvs fs) : fvs.length = fs.length := by
  have := congrArg List.length h.nm
  simpa using this

/-! ### cells -/
inductive Cell where
  | lst (ts : List Ty)
  | ins (C : Addr) (fs : List (Str × Ty))
  | dic (kvs : List (Key × Ty))
def Cell.ok (H F : Hp) (a : Addr) : Cell → Prop
  | .lst ts => ∃ vs, H a = some (.lst vs) ∧ Tys F vs ts
  | .ins C fs => ∃ dx fvs, H a = some (.ins C dx fvs) ∧ Flds F fvs fs
  | .dic kvs => ∃ ps : List (Key × V), H a = some (.dK ps) ∧ ps.map (·.1) = kvs.map (·.1) ∧ Tys F (ps.map (·.2)) (kvs.map (·.2))
theorem Cell.ok.upF {H F F' : Hp} {a : Addr} (e : Same F F') : ∀ {c : Cell}, c.ok H F a → c.ok H F' a
  | .lst _, ⟨vs, h, k⟩ => ⟨vs, h, k.up e⟩
  | .ins _ _, ⟨dx, fvs, h, k⟩ => ⟨dx, fvs, h, k.up e⟩
  | .dic _, ⟨ps, h, n, k⟩ => ⟨ps, h, n, k.up e⟩
theorem Cell.ok.toH {H H' F : Hp} {a : Addr} (e : H' a = H a) : ∀ {c : Cell}, c.ok H F a → c.ok H' F a
  | .lst _, ⟨vs, h, k⟩ => ⟨vs, e.trans h, k⟩
  | .ins _ _, ⟨dx, fvs, h, k⟩ => ⟨dx, fvs, e.trans h, k⟩
  | .dic _, ⟨ps, h, n, k⟩ => ⟨ps, e.trans h, n, k⟩
theorem Cell.ok.some {H F : Hp} {a : Addr} : ∀ {c : Cell}, c.ok H F a → ∃ o, H a = some o
  | .lst _, ⟨_, h, _⟩ => ⟨_, h⟩
  | .ins _ _, ⟨_, _, h, _⟩ => ⟨_, h⟩
  | .dic _, ⟨_, h, _⟩ => ⟨_, h⟩
abbrev CS := Addr → Option Cell
def CS.none : CS := fun _ => Option.none
def CS.set (cs : CS) (a : Addr) (c : Cell) : CS := fun b => if b = a then Option.some c else cs b
def CS.del (cs : CS) (a : Addr) : CS := fun b => if b = a then Option.none else cs b
theorem CS.same {cs : CS} {a : Addr} {c : Cell} : cs.set a c a = some c := if_pos rfl
theorem CS.ne {cs : CS} {a b : Addr} {c : Cell} (h : b ≠ a) : cs.set a c b = cs b := if_neg h
theorem CS.set_set {cs : CS} {a : Addr} {c d : Cell} : (cs.set a c).set a d = cs.set a d := by
  funext b; unfold CS.set; split <;> rfl
theorem CS.set_id {cs : CS} {a : Addr} {c : Cell} (h : cs a = some c) : cs.set a c = cs := by
  funext b; unfold CS.set
  split
  · rename_i e; subst e; exact h.symm
  · rfl
theorem CS.del_set {cs : CS} {a : Addr} {c : Cell} (h : cs a = Option.none) : (cs.set a c).del a = cs := by
  funext b; unfold CS.set CS.del
  by_cases e : b = a
  · subst e; simp [h]
  · simp [e]
theorem CS.set_comm {cs : CS} {a b : Addr} {c d : Cell} (h : a ≠ b) : (cs.set a c).set b d = (cs.set b d).set a c := by
  funext x; unfold CS.set
  by_cases e1 : x = a
  · subst e1; simp [h]
  · by_cases e2 : x = b
    · subst e2; simp [e1]
    · simp [e1, e2]
theorem CS.ne_of {cs : CS} {a b : Addr} {c : Cell} (ha : cs a = some c) (hb : cs b = Option.none) : a ≠ b := by
  intro e; subst e; rw [ha] at hb; cases hb

structure Cs (H F : Hp) (cs : CS) : Prop where
  sub : Same F H
  own : ∀ a c, cs a = some c → F a = none ∧ c.ok H F a
section
variable {H H' F F' : Hp} {cs : CS} {a p : Addr} {o : HO} {c : Cell}
theorem Cs.free (h : Cs H F cs) (e : H p = none) : F p = none := h.sub.free e
theorem Cs.freeC (h : Cs H F cs) (e : H p = none) : cs p = none := by
  cases q : cs p with
  | none => rfl
  | some c =>
    obtain ⟨_, k⟩ := h.own p c q
    obtain ⟨o, z⟩ := k.some
    rw [e] at z; cases z
/-- more stands in the heap, nothing else -/
theorem Cs.more (h : Cs H F cs) (e : Same H H') : Cs H' F cs :=
  ⟨h.sub.trans e, fun a c q => ⟨(h.own a c q).1, by
    obtain ⟨o, z⟩ := (h.own a c q).2.some
    exact (h.own a c q).2.toH ((e _ _ z).trans z.symm)⟩⟩
theorem Same.upd {F : Hp} {p : Addr} {o : HO} (e : F p = none) : Same F (upd F p o) := fun b u q => by
  rw [upd_ne (ne_of_none q e)]; exact q
/-- a new object that is frozen at once -/
theorem Cs.frozen (h : Cs H F cs) (e : H p = none) : Cs (upd H p o) (upd F p o) cs := by
  have hF := h.free e
  have hC := h.freeC e
  refine ⟨fun b u q => ?_, fun a c q => ?_⟩
  · by_cases hb : b = p
    · subst hb; rw [upd_same] at q ⊢; exact q
    · rw [upd_ne hb] at q ⊢; exact h.sub _ _ q
  · have na : a ≠ p := CS.ne_of q hC
    obtain ⟨k1, k2⟩ := h.own a c q
    exact ⟨by rw [upd_ne na]; exact k1, (k2.upF (Same.upd hF)).toH (upd_ne na)⟩
/-- a new object that is a cell -/
theorem Cs.new (h : Cs H F cs) (e : H p = none) (k : c.ok (upd H p o) F p) : Cs (upd H p o) F (cs.set p c) := by
  have hF := h.free e
  refine ⟨fun b u q => ?_, fun a d q => ?_⟩
  · rw [upd_ne (ne_of_none q hF)]; exact h.sub _ _ q
  · by_cases hb : a = p
    · subst hb; rw [CS.same] at q; cases q; exact ⟨hF, k⟩
    · rw [CS.ne hb] at q
      obtain ⟨k1, k2⟩ := h.own a d q
      exact ⟨k1, k2.toH (upd_ne hb)⟩
/-- a cell changes -/
theorem Cs.put {c' : Cell} (h : Cs H F cs) (q : cs a = some c) (k : c'.ok (upd H a o) F a) : Cs (upd H a o) F (cs.set a c') := by
  have hF := (h.own a c q).1
  refine ⟨fun b u q => ?_, fun b d z => ?_⟩
  · rw [upd_ne (ne_of_none q hF)]; exact h.sub _ _ q
  · by_cases hb : b = a
    · subst hb; rw [CS.same] at z; cases z; exact ⟨hF, k⟩
    · rw [CS.ne hb] at z
      obtain ⟨k1, k2⟩ := h.own b d z
      exact ⟨k1, k2.toH (upd_ne hb)⟩
/-- a cell is frozen -/
theorem Cs.freeze (h : Cs H F cs) (q : cs a = some c) : ∃ o, H a = some o ∧ Same F (upd F a o) ∧ Cs H (upd F a o) (cs.del a) := by
  obtain ⟨k1, k2⟩ := h.own a c q
  obtain ⟨o, z⟩ := k2.some
  refine ⟨o, z, Same.upd k1, fun b u q => ?_, fun b d y => ?_⟩
  · by_cases hb : b = a
    · subst hb; rw [upd_same] at q; cases q; exact z
    · rw [upd_ne hb] at q; exact h.sub _ _ q
  · have nb : b ≠ a := fun e => by subst e; unfold CS.del at y; rw [if_pos rfl] at y; cases y
    have y' : cs b = some d := by unfold CS.del at y; rw [if_neg nb] at y; exact y
    obtain ⟨j1, j2⟩ := h.own b d y'
    exact ⟨by rw [upd_ne nb]; exact j1, j2.upF (Same.upd k1)⟩
/-- cells may be forgotten -/
theorem Cs.less {cs' : CS} (h : Cs H F cs) (k : ∀ a c, cs' a = some c → cs a = some c) : Cs H F cs' := ⟨h.sub, fun a c q => h.own a c (k a c q)⟩
theorem Cs.lst {ts : List Ty} (h : Cs H F cs) (q : cs a = some (.lst ts)) : ∃ vs, H a = some (.lst vs) ∧ Tys F vs ts := (h.own a _ q).2
theorem Cs.ins {C : Addr} {fs : List (Str × Ty)} (h : Cs H F cs) (q : cs a = some (.ins C fs)) : ∃ dx fvs, H a = some (.ins C dx fvs) ∧ Flds F fvs fs := (h.own a _ q).2
end

/-! ### slots -/
abbrev Ds := List (Option Ty)
structure Sl (F : Hp) (σ : L2.St) (ds : Ds) : Prop where
  len : σ.length = ds.length
  at_ : ∀ (i : Nat) (t : Ty), ds[i]? = some (some t) → ∃ v, σ[i]? = some (some v) ∧ t.p v F
theorem Sl.up {F F' : Hp} {σ : L2.St} {ds : Ds} (e : Same F F') (h : Sl F σ ds) : Sl F' σ ds := ⟨h.len, fun i t q => let ⟨v, a, b⟩ := h.at_ i t q; ⟨v, a, t.up e b⟩⟩
theorem Sl.set {F : Hp} {σ : L2.St} {ds : Ds} {i : Nat} {v : V} {t : Ty} (h : Sl F σ ds) (r : t.p v F) : Sl F (σ.set i (some v)) (ds.set i (some t)) := by
  refine ⟨by simp [h.len], fun j u q => ?_⟩
  by_cases e : i = j
  · subst e
    by_cases hl : i < ds.length
    · rw [List.getElem?_set_self hl] at q
      cases q
      exact ⟨v, by rw [List.getElem?_set_self (by rw [h.len]; exact hl)], r⟩
    · rw [List.getElem?_eq_none (by simp; omega)] at q; cases q
  · rw [List.getElem?_set_ne e] at q ⊢
    exact h.at_ j u q
theorem Sl.wipe1 {F : Hp} {σ : L2.St} {ds : Ds} {i : Nat} (h : Sl F σ ds) : Sl F (σ.set i none) (ds.set i none) := by
  refine ⟨by simp [h.len], fun j u q => ?_⟩
  by_cases e : i = j
  · subst e
    by_cases hl : i < ds.length
    · rw [List.getElem?_set_self hl] at q; cases q
    · rw [List.getElem?_eq_none (by simp; omega)] at q; cases q
  · rw [List.getElem?_set_ne e] at q ⊢
    exact h.at_ j u q
theorem Sl.start {F : Hp} {N : List Str} {vs : List V} {ts : List Ty} (h : Tys F vs ts) : Sl F (L2.start N vs) (ts.map some ++ List.replicate (N.length - ts.length) none) := by
  have e := h.length
  refine ⟨by simp [L2.start, e], fun i t q => ?_⟩
  by_cases hi : i < ts.length
  · rw [List.getElem?_append_left (by simpa using hi), List.getElem?_map] at q
    obtain ⟨t', h1, h2⟩ : ∃ t', ts[i]? = some t' ∧ t' = t := by
      cases z : ts[i]? with
      | none => rw [z] at q; cases q
      | some t' => rw [z] at q; simp at q; exact ⟨t', rfl, q⟩
    subst h2
    obtain ⟨v, k1, k2⟩ := h.get h1
    refine ⟨v, ?_, k2⟩
    unfold L2.start
    rw [List.getElem?_append_left (by simp [e]; exact hi), List.getElem?_map, k1]
    rfl
  · rw [List.getElem?_append_right (by simp; omega), List.getElem?_replicate] at q
    split at q <;> cases q

/-! ### exceptions -/
structure DX where
  cls : Value
  fs : List (Str × Ty) := []
def DX.holds (e : DX) (cls : Value) (d : Option Addr) (F : Hp) : Prop := cls = e.cls ∧ (e.fs ≠ [] → ∃ dd fvs, d = some dd ∧ F dd = some (.xd fvs) ∧ ∀ (f : Str) (t : Ty), e.fs.lookup f = some t → ∃ v, fvs.lookup f = some v ∧ t.p v F)
abbrev DK := DX → CS → Prop
/-- what is wished of an exception: at the machine's side, at the data's -/
structure Zx where
  x : L2.St → XK
  k : Ds → DK
def Zx.ok (Z : Zx) (F : Hp) : Prop := ∀ σ ds e cs cls d H F', Z.k ds e cs → Same F F' → Sl F' σ ds → Cs H F' cs → e.holds cls d F' → Z.x σ cls d H
theorem Zx.ok.up {Z : Zx} {F F' : Hp} (h : Z.ok F) (e : Same F F') : Z.ok F' := fun σ ds x cs cls d H F2 k e2 => h σ ds x cs cls d H F2 k (e.trans e2)
def Z0 : Zx := ⟨fun _ => E0, fun _ _ _ => False⟩
theorem Z0.ok {F : Hp} : Z0.ok F := fun _ _ _ _ _ _ _ _ k => k.elim
/-- an exception that leaves the def -/
def ZE (E : XK) (k : DK) : Zx := ⟨fun _ => E, fun _ => k⟩

/-! ### judgements -/
def Post (F : Hp) (K : Ty → CS → Prop) (Q : VK) : Prop := ∀ t cs' v H' F', K t cs' → Same F F' → Cs H' F' cs' → t.p v F' → Q v H'
theorem Post.up {F F' : Hp} {K : Ty → CS → Prop} {Q : VK} (h : Post F K Q) (e : Same F F') : Post F' K Q := fun t cs v H F2 k e2 => h t cs v H F2 k (e.trans e2)
def W (Z : Zx) (te : TE) (ds : Ds) (cs : CS) (K : Ty → CS → Prop) : Prop := ∀ σ H F, Sl F σ ds → Cs H F cs → Z.ok F → ∀ Q : VK, Post F K Q → te σ H Q
def WT (Z : Zx) (tt : TT) (ds : Ds) (cs : CS) (K : Bool → CS → Prop) : Prop :=
  ∀ σ H F, Sl F σ ds → Cs H F cs → Z.ok F → ∀ Q : Bool → Hp → Prop, (∀ b cs' H' F', K b cs' → Same F F' → Cs H' F' cs' → Q b H') → tt σ H Q
def WA (Z : Zx) (ta : TA) (ds : Ds) (cs : CS) (K : List Ty → CS → Prop) : Prop :=
  ∀ σ H F, Sl F σ ds → Cs H F cs → Z.ok F → ∀ Q : List V → Hp → Prop, (∀ ts cs' vs H' F', K ts cs' → Same F F' → Cs H' F' cs' → Tys F' vs ts → Q vs H') → ta σ H Q
def WO (Z : Zx) (to : TO) (ds : Ds) (cs : CS) (K : Option Int → CS → Prop) : Prop :=
  ∀ σ H F, Sl F σ ds → Cs H F cs → Z.ok F → ∀ Q : Option Int → Hp → Prop, (∀ o cs' H' F', K o cs' → Same F F' → Cs H' F' cs' → Q o H') → to σ H Q
/-- values: a two-place operation, a one-place one, a call -/
def R2W (r : R2) (x y : Ty) (cs : CS) (K : Ty → CS → Prop) : Prop := ∀ vx vy H F, x.p vx F → y.p vy F → Cs H F cs → ∀ Q, Post F K Q → r vx vy H Q
def R1W (r : V → Hp → VK → Prop) (x : Ty) (cs : CS) (K : Ty → CS → Prop) : Prop := ∀ vx H F, x.p vx F → Cs H F cs → ∀ Q, Post F K Q → r vx H Q
def RLW (r : List V → Hp → VK → Prop) (xs : List Ty) (cs : CS) (K : Ty → CS → Prop) : Prop := ∀ vs H F, Tys F vs xs → Cs H F cs → ∀ Q, Post F K Q → r vs H Q
def RMW (r : V → List V → Hp → VK → Prop) (x : Ty) (xs : List Ty) (cs : CS) (K : Ty → CS → Prop) : Prop := ∀ vx vs H F, x.p vx F → Tys F vs xs → Cs H F cs → ∀ Q, Post F K Q → r vx vs H Q
structure DE where
  nx : Ds → CS → Prop
  rt : Ty → CS → Prop
  bk : Ds → CS → Prop := fun _ _ => False
  ct : Ds → CS → Prop := fun _ _ => False
def Fit (k : Ds → CS → Prop) (F : Hp) (n : L2.St → Hp → Prop) : Prop := ∀ ds cs σ H F', k ds cs → Same F F' → Sl F' σ ds → Cs H F' cs → n σ H
structure Fits (D : Ends) (E : DE) (F : Hp) : Prop where
  nx : Fit E.nx F D.nx
  rt : Post F E.rt D.rt
  bk : Fit E.bk F D.bk
  ct : Fit E.ct F D.ct
theorem Fit.up {k : Ds → CS → Prop} {F F' : Hp} {n : L2.St → Hp → Prop} (h : Fit k F n) (e : Same F F') : Fit k F' n := fun ds cs σ H F2 q e2 => h ds cs σ H F2 q (e.trans e2)
theorem Fits.up {D : Ends} {E : DE} {F F' : Hp} (h : Fits D E F) (e : Same F F') : Fits D E F' := ⟨h.nx.up e, h.rt.up e, h.bk.up e, h.ct.up e⟩
def WS (Z : Zx) (ts : TS) (E : DE) (ds : Ds) (cs : CS) : Prop := ∀ σ H F D, Sl F σ ds → Cs H F cs → Z.ok F → Fits D E F → ts D σ H
def WG (Z : Zx) (g : TG) (t : Ty) (ds : Ds) (cs : CS) (K : Ds → CS → Prop) : Prop := ∀ v σ H F, t.p v F → Sl F σ ds → Cs H F cs → Z.ok F → ∀ Q : L2.St → Hp → Prop, Fit K F Q → g v σ H Q

section
variable {Z : Zx} {ds : Ds} {cs : CS} {K : Ty → CS → Prop} {te ta tb : TE} {tt tu : TT} {E : DE} {ts tu' : TS}
theorem Sl.zok {F F' : Hp} (z : Z.ok F) (e : Same F F') : Z.ok F' := z.up e

theorem w_mono {K' : Ty → CS → Prop} (h : W Z te ds cs K) (k : ∀ t cs', K t cs' → K' t cs') : W Z te ds cs K' := fun σ H F sl c z Q q => h σ H F sl c z Q fun t cs' v H' F' kk => q t cs' v H' F' (k t cs' kk)
theorem w_var {i : Nat} {t : Ty} (h : ds[i]? = some (some t)) (k : K t cs) : W Z (tVar i) ds cs K := fun σ H F sl c z Q q => by
  obtain ⟨v, e, r⟩ := sl.at_ i t h
  exact ⟨v, e, q t cs v H F k (Same.refl F) c r⟩
theorem w_c {v : V} {t : Ty} (r : ∀ F, t.p v F) (k : K t cs) : W Z (tC v) ds cs K := fun σ H F sl c z Q q => q t cs v H F k (Same.refl F) c (r F)
theorem w_int {i : Int} (k : K (dI i) cs) : W Z (tC (.int i)) ds cs K := w_c (fun _ => rfl) k
theorem w_str {x : Str} (k : K (dS x) cs) : W Z (tC (.str x)) ds cs K := w_c (fun _ => rfl) k
theorem w_bl {b : Bool} (k : K (dB b) cs) : W Z (tC (.bl b)) ds cs K := w_c (fun _ => rfl) k
theorem w_non (k : K dN cs) : W Z (tC .non) ds cs K := w_c (fun _ => rfl) k
theorem w_ref {a : Addr} (k : K (dR a) cs) : W Z (tC (.ref a)) ds cs K := w_c (fun _ => rfl) k
theorem w_ty {n : String} (k : K (dY n) cs) : W Z (tC (.ty n)) ds cs K := w_c (fun _ => rfl) k
theorem w_op {r : R2} (h : W Z ta ds cs fun x cs1 => W Z tb ds cs1 fun y cs2 => R2W r x y cs2 K) : W Z (tOp r ta tb) ds cs K := fun σ H F sl c z Q q =>
  h σ H F sl c z _ fun x cs1 v1 H1 F1 k1 e1 c1 r1 => k1 σ H1 F1 (sl.up e1) c1 (z.up e1) _ fun y cs2 v2 H2 F2 k2 e2 c2 r2 => k2 v1 v2 H2 F2 (x.up e2 r1) r2 c2 Q (q.up (e1.trans e2))
theorem w_un {r : V → Hp → VK → Prop} (h : W Z ta ds cs fun x cs1 => R1W r x cs1 K) : W Z (tUn r ta) ds cs K := fun σ H F sl c z Q q =>
  h σ H F sl c z _ fun x cs1 v1 H1 F1 k1 e1 c1 r1 => k1 v1 H1 F1 r1 c1 Q (q.up e1)
theorem w_chain {r r' : R2} {tc : TE} (h : W Z ta ds cs fun x cs1 => W Z tb ds cs1 fun y cs2 => R2W r x y cs2 fun b cs3 => ∃ c, b = dB c ∧ (if c = true then W Z tc ds cs3 fun w cs4 => R2W r' y w cs4 K else K (dB false) cs3)) :
    W Z (tChain r r' ta tb tc) ds cs K := fun σ H F sl c z Q q =>
  h σ H F sl c z _ fun x cs1 v1 H1 F1 k1 e1 c1 r1 => k1 σ H1 F1 (sl.up e1) c1 (z.up e1) _ fun y cs2 v2 H2 F2 k2 e2 c2 r2 => k2 v1 v2 H2 F2 (x.up e2 r1) r2 c2 _ fun b cs3 v3 H3 F3 k3 e3 c3 r3 => by
    obtain ⟨cc, rfl, k3⟩ := k3
    refine ⟨cc, r3, ?_⟩
    cases cc with
    | true =>
      rw [if_pos rfl] at k3 ⊢
      exact k3 σ H3 F3 (sl.up (e1.trans (e2.trans e3))) c3 (z.up (e1.trans (e2.trans e3))) _ fun w cs4 v4 H4 F4 k4 e4 c4 r4 => k4 v2 v4 H4 F4 (y.up (e3.trans e4) r2) r4 c4 Q (q.up (e1.trans (e2.trans (e3.trans e4))))
    | false =>
      rw [if_neg Bool.false_ne_true] at k3 ⊢
      exact q _ _ _ _ _ k3 (e1.trans (e2.trans e3)) c3 rfl
/-! tests -/
theorem wt_test {Kb : Bool → CS → Prop} (h : W Z te ds cs fun t cs1 => ∃ b, t = dB b ∧ Kb b cs1) : WT Z (tTest te) ds cs Kb := fun σ H F sl c z Q q =>
  h σ H F sl c z _ fun t cs1 v H1 F1 k e c1 r => by
    obtain ⟨b, rfl, k⟩ := k
    exact ⟨b, r, q b cs1 H1 F1 k e c1⟩
theorem wt_B {Kb : Bool → CS → Prop} (h : W Z te ds cs fun t cs1 => ∃ b, t = dB b ∧ Kb b cs1) : WT Z (tB te) ds cs Kb := fun σ H F sl c z Q q =>
  h σ H F sl c z _ fun t cs1 v H1 F1 k e c1 r => by
    obtain ⟨b, rfl, k⟩ := k
    exact ⟨b, r, q b cs1 H1 F1 k e c1⟩
theorem wt_and {Kb : Bool → CS → Prop} (h : WT Z tt ds cs fun b cs1 => if b = true then WT Z tu ds cs1 Kb else Kb false cs1) : WT Z (tAnd tt tu) ds cs Kb := fun σ H F sl c z Q q =>
  h σ H F sl c z _ fun b cs1 H1 F1 k e c1 => by
    cases b with
    | true =>
      rw [if_pos rfl] at k ⊢
      exact k σ H1 F1 (sl.up e) c1 (z.up e) Q fun b' cs2 H2 F2 k2 e2 c2 => q b' cs2 H2 F2 k2 (e.trans e2) c2
    | false =>
      rw [if_neg Bool.false_ne_true] at k ⊢
      exact q false cs1 H1 F1 k e c1
theorem wt_or {Kb : Bool → CS → Prop} (h : WT Z tt ds cs fun b cs1 => if b = true then Kb true cs1 else WT Z tu ds cs1 Kb) : WT Z (tOr tt tu) ds cs Kb := fun σ H F sl c z Q q =>
  h σ H F sl c z _ fun b cs1 H1 F1 k e c1 => by
    cases b with
    | true =>
      rw [if_pos rfl] at k ⊢
      exact q true cs1 H1 F1 k e c1
    | false =>
      rw [if_neg Bool.false_ne_true] at k ⊢
      exact k σ H1 F1 (sl.up e) c1 (z.up e) Q fun b' cs2 H2 F2 k2 e2 c2 => q b' cs2 H2 F2 k2 (e.trans e2) c2
theorem wt_not {Kb : Bool → CS → Prop} (h : WT Z tt ds cs fun b cs1 => Kb (!b) cs1) : WT Z (tNot tt) ds cs Kb := fun σ H F sl c z Q q =>
  h σ H F sl c z _ fun b cs1 H1 F1 k e c1 => q (!b) cs1 H1 F1 k e c1
/-- a value's truth -/
def TruW (x : Ty) (cs : CS) (b : Bool) : Prop := ∀ (Kf : PySem.W.Frag) v H F, x.p v F → Cs H F cs → TruV Kf v H b
theorem wt_tru {Kf : PySem.W.Frag} {Kb : Bool → CS → Prop} (h : W Z te ds cs fun t cs1 => ∃ b, TruW t cs1 b ∧ Kb b cs1) : WT Z (fun σ H Q => te σ H fun x H' => ∃ k, TruV Kf x H' k ∧ Q k H') ds cs Kb := fun σ H F sl c z Q q =>
  h σ H F sl c z _ fun t cs1 v H1 F1 k e c1 r => by
    obtain ⟨b, k1, k2⟩ := k
    exact ⟨b, k1 Kf v H1 F1 r c1, q b cs1 H1 F1 k2 e c1⟩
theorem w_andV (h : W Z ta ds cs fun x cs1 => ∃ b, x = dB b ∧ (if b = true then W Z tb ds cs1 K else K (dB false) cs1)) : W Z (tAndV ta tb) ds cs K := fun σ H F sl c z Q q =>
  h σ H F sl c z _ fun x cs1 v H1 F1 k e c1 r => by
    obtain ⟨b, rfl, k⟩ := k
    refine ⟨b, r, ?_⟩
    cases b with
    | true =>
      rw [if_pos rfl] at k ⊢
      exact k σ H1 F1 (sl.up e) c1 (z.up e) Q (q.up e)
    | false =>
      rw [if_neg Bool.false_ne_true] at k ⊢
      exact q _ _ _ _ _ k e c1 rfl
theorem w_orV (h : W Z ta ds cs fun x cs1 => ∃ b, x = dB b ∧ (if b = true then K (dB true) cs1 else W Z tb ds cs1 K)) : W Z (tOrV ta tb) ds cs K := fun σ H F sl c z Q q =>
  h σ H F sl c z _ fun x cs1 v H1 F1 k e c1 r => by
    obtain ⟨b, rfl, k⟩ := k
    refine ⟨b, r, ?_⟩
    cases b with
    | true =>
      rw [if_pos rfl] at k ⊢
      exact q _ _ _ _ _ k e c1 rfl
    | false =>
      rw [if_neg Bool.false_ne_true] at k ⊢
      exact k σ H1 F1 (sl.up e) c1 (z.up e) Q (q.up e)
theorem w_notV (h : W Z ta ds cs fun x cs1 => ∃ b, x = dB b ∧ K (dB (!b)) cs1) : W Z (tNotV ta) ds cs K := fun σ H F sl c z Q q =>
  h σ H F sl c z _ fun x cs1 v H1 F1 k e c1 r => by
    obtain ⟨b, rfl, k⟩ := k
    exact ⟨b, r, q _ _ _ _ _ k e c1 rfl⟩
theorem w_if (h : WT Z tt ds cs fun b cs1 => if b = true then W Z ta ds cs1 K else W Z tb ds cs1 K) : W Z (tIf tt ta tb) ds cs K := fun σ H F sl c z Q q =>
  h σ H F sl c z _ fun b cs1 H1 F1 k e c1 => by
    cases b with
    | true =>
      rw [if_pos rfl] at k ⊢
      exact k σ H1 F1 (sl.up e) c1 (z.up e) Q (q.up e)
    | false =>
      rw [if_neg Bool.false_ne_true] at k ⊢
      exact k σ H1 F1 (sl.up e) c1 (z.up e) Q (q.up e)
/-! arguments, displays -/
theorem wa_nil {Ka : List Ty → CS → Prop} (k : Ka [] cs) : WA Z tNil ds cs Ka := fun σ H F sl c z Q q => q [] cs [] H F k (Same.refl F) c .nil
theorem wa_cons {tr : TA} {Ka : List Ty → CS → Prop} (h : W Z te ds cs fun x cs1 => WA Z tr ds cs1 fun xs cs2 => Ka (x :: xs) cs2) : WA Z (tCons te tr) ds cs Ka := fun σ H F sl c z Q q =>
  h σ H F sl c z _ fun x cs1 v H1 F1 k e c1 r => k σ H1 F1 (sl.up e) c1 (z.up e) _ fun xs cs2 vs H2 F2 k2 e2 c2 r2 => q (x :: xs) cs2 (v :: vs) H2 F2 k2 (e.trans e2) c2 (.cons (x.up e2 r) r2)
theorem w_tup {tr : TA} (h : WA Z tr ds cs fun xs cs1 => xs.length ≤ sizeLine ∧ K (dT xs) cs1) : W Z (tTup tr) ds cs K := fun σ H F sl c z Q q =>
  h σ H F sl c z _ fun xs cs1 vs H1 F1 k e c1 r => ⟨by rw [r.length]; exact k.1, fun p hp => by
    have hF := c1.free hp
    exact q (dT xs) cs1 _ _ _ k.2 (e.trans (Same.upd hF)) (c1.frozen hp) ⟨p, vs, rfl, upd_same, r.up (Same.upd hF)⟩⟩
theorem w_lst {tr : TA} (h : WA Z tr ds cs fun xs cs1 => xs.length ≤ sizeLine ∧ ∀ a, cs1 a = none → K (dR a) (cs1.set a (.lst xs))) : W Z (tLst tr) ds cs K := fun σ H F sl c z Q q =>
  h σ H F sl c z _ fun xs cs1 vs H1 F1 k e c1 r => ⟨by rw [r.length]; exact k.1, fun p hp => q (dR p) _ _ _ _ (k.2 p (c1.freeC hp)) e (c1.new hp ⟨vs, upd_same, r⟩) rfl⟩
theorem w_cb {r : List V → Hp → VK → Prop} {tr : TA} (h : WA Z tr ds cs fun xs cs1 => RLW r xs cs1 K) : W Z (tCB r tr) ds cs K := fun σ H F sl c z Q q =>
  h σ H F sl c z _ fun xs cs1 vs H1 F1 k e c1 r1 => k vs H1 F1 r1 c1 Q (q.up e)
/-! statements -/
theorem ws_next (k : E.nx ds cs) : WS Z tNext E ds cs := fun σ H F D sl c z f => f.nx ds cs σ H F k (Same.refl F) sl c
theorem ws_break (k : E.bk ds cs) : WS Z tBreak E ds cs := fun σ H F D sl c z f => f.bk ds cs σ H F k (Same.refl F) sl c
theorem ws_cont (k : E.ct ds cs) : WS Z tCont E ds cs := fun σ H F D sl c z f => f.ct ds cs σ H F k (Same.refl F) sl c
theorem ws_seq (h : WS Z ts { E with nx := WS Z tu' E } ds cs) : WS Z (tSeq ts tu') E ds cs := fun σ H F D sl c z f =>
  h σ H F { D with nx := tu' D } sl c z ⟨fun ds' cs' σ' H' F' k e sl' c' => k σ' H' F' D sl' c' (z.up e) (f.up e), f.rt, f.bk, f.ct⟩
theorem ws_drop (h : W Z te ds cs fun _ cs1 => E.nx ds cs1) : WS Z (tDrop te) E ds cs := fun σ H F D sl c z f =>
  h σ H F sl c z _ fun x cs1 v H1 F1 k e c1 r => f.nx ds cs1 σ H1 F1 k e (sl.up e) c1
theorem ws_ret (h : W Z te ds cs E.rt) : WS Z (tRet te) E ds cs := fun σ H F D sl c z f => h σ H F sl c z _ f.rt
theorem ws_retN (k : E.rt dN cs) : WS Z tRetN E ds cs := fun σ H F D sl c z f => f.rt _ _ _ _ _ k (Same.refl F) c rfl
theorem ws_if (h : WT Z tt ds cs fun b cs1 => if b = true then WS Z ts E ds cs1 else WS Z tu' E ds cs1) : WS Z (tIfS tt ts tu') E ds cs := fun σ H F D sl c z f =>
  h σ H F sl c z _ fun b cs1 H1 F1 k e c1 => by
    cases b with
    | true =>
      rw [if_pos rfl] at k ⊢
      exact k σ H1 F1 D (sl.up e) c1 (z.up e) (f.up e)
    | false =>
      rw [if_neg Bool.false_ne_true] at k ⊢
      exact k σ H1 F1 D (sl.up e) c1 (z.up e) (f.up e)
theorem ws_asg {g : TG} (h : W Z te ds cs fun x cs1 => WG Z g x ds cs1 E.nx) : WS Z (tAsg te g) E ds cs := fun σ H F D sl c z f =>
  h σ H F sl c z _ fun x cs1 v H1 F1 k e c1 r => k v σ H1 F1 r (sl.up e) c1 (z.up e) _ (f.nx.up e)
theorem wg_name {i : Nat} {t : Ty} {K : Ds → CS → Prop} (k : K (ds.set i (some t)) cs) : WG Z (gName i) t ds cs K := fun v σ H F r sl c z Q q => q _ cs _ H F k (Same.refl F) (sl.set r) c
theorem ws_set {i : Nat} (h : W Z te ds cs fun x cs1 => E.nx (ds.set i (some x)) cs1) : WS Z (tAsg te (gName i)) E ds cs := ws_asg (w_mono h fun _ _ k => wg_name k)
end
end S

set_option Elab.async false
set_option linter.all false
set_option maxRecDepth 100000
set_option maxHeartbeats 2000000
set_option autoImplicit false
/-! The S layer, 2: sequences, fields, calls, operators, loops. -/
namespace S
open PySem PySem.Spec PyProof.Rows L2

/-! ### sequences -/
/-- a list: frozen, or a cell -/
inductive IsL (cs : CS) : Ty → List Ty → Prop
  | fz {ts : List Ty} : IsL cs (dL ts) ts
  | cl {a : Addr} {ts : List Ty} : cs a = some (.lst ts) → IsL cs (dR a) ts
inductive IsQ (cs : CS) : Ty → List Ty → Prop
  | fz {ts : List Ty} : IsQ cs (dL ts) ts
  | tp {ts : List Ty} : IsQ cs (dT ts) ts
  | sc {ts : List Ty} : IsQ cs (dF ts) ts
  | cl {a : Addr} {ts : List Ty} : cs a = some (.lst ts) → IsQ cs (dR a) ts
theorem IsL.q {cs : CS} {x : Ty} {ts : List Ty} : IsL cs x ts → IsQ cs x ts
  | .fz => .fz
  | .cl h => .cl h
section
variable {cs : CS} {x : Ty} {ts : List Ty} {v : V} {H F : Hp} {Kf : PySem.W.Frag}
theorem IsL.get (h : IsL cs x ts) (r : x.p v F) (c : Cs H F cs) : ∃ a vs, v = .ref a ∧ H a = some (.lst vs) ∧ Tys F vs ts := by
  cases h with
  | fz =>
    obtain ⟨a, vs, e, h, k⟩ := r
    exact ⟨a, vs, e, c.sub _ _ h, k⟩
  | @cl a _ q =>
    obtain ⟨vs, h, k⟩ := c.lst q
    exact ⟨a, vs, r, h, k⟩
theorem IsQ.get (Kf : PySem.W.Frag) (h : IsQ cs x ts) (r : x.p v F) (c : Cs H F cs) : ∃ a vs, v = .ref a ∧ (SqL Kf H a vs ∨ SqT Kf H a vs) ∧ Tys F vs ts := by
  cases h with
  | fz =>
    obtain ⟨a, vs, e, h, k⟩ := r
    exact ⟨a, vs, e, .inl (.of (c.sub _ _ h)), k⟩
  | tp =>
    obtain ⟨a, vs, e, h, k⟩ := r
    exact ⟨a, vs, e, .inr (.of (c.sub _ _ h)), k⟩
  | sc =>
    obtain ⟨a, o, vs, e, h, k⟩ := r
    exact ⟨a, vs, e, .inl (.inl (.inr ⟨o, c.sub _ _ h⟩)), k⟩
  | @cl a _ q =>
    obtain ⟨vs, h, k⟩ := c.lst q
    exact ⟨a, vs, r, .inl (.of h), k⟩
theorem Tys.ints : ∀ {vs : List V} {ns : List Int}, Tys F vs (ns.map dI) → vs = ns.map V.int
  | [], [], _ => rfl
  | [], _ :: _, h => by cases h
  | _ :: _, [], h => by cases h
  | v :: vs, n :: ns, h => by
    cases h with
    | cons h1 h2 =>
      obtain rfl : v = V.int n := h1
      rw [Tys.ints h2]
      rfl
theorem Tys.ofInts : ∀ ns : List Int, Tys F (ns.map V.int) (ns.map dI)
  | [] => .nil
  | _ :: ns => .cons rfl (Tys.ofInts ns)
theorem Tys.strs : ∀ {vs : List V} {ns : List Str}, Tys F vs (ns.map dS) → vs = ns.map V.str
  | [], [], _ => rfl
  | [], _ :: _, h => by cases h
  | _ :: _, [], h => by cases h
  | v :: vs, n :: ns, h => by
    cases h with
    | cons h1 h2 =>
      obtain rfl : v = V.str n := h1
      rw [Tys.strs h2]
      rfl
theorem Tys.ofStrs : ∀ ns : List Str, Tys F (ns.map V.str) (ns.map dS)
  | [] => .nil
  | _ :: ns => .cons rfl (Tys.ofStrs ns)
theorem Tys.bls : ∀ {vs : List V} {ns : List Bool}, Tys F vs (ns.map dB) → vs = ns.map V.bl
  | [], [], _ => rfl
  | [], _ :: _, h => by cases h
  | _ :: _, [], h => by cases h
  | v :: vs, n :: ns, h => by
    cases h with
    | cons h1 h2 =>
      obtain rfl : v = V.bl n := h1
      rw [Tys.bls h2]
      rfl
theorem map_inj {α : Type} {f : α → Ty} (hf : ∀ a b, f a = f b → a = b) : ∀ {l m : List α}, l.map f = m.map f → l = m
  | [], [], _ => rfl
  | [], _ :: _, h => by cases h
  | _ :: _, [], h => by cases h
  | a :: l, b :: m, h => by
    simp only [List.map_cons, List.cons.injEq] at h
    rw [hf a b h.1, map_inj hf h.2]
end

/-! ### items, slices, len -/
def atT (ts : List Ty) (i : Int) : Option Ty := atI ts i
section
variable {cs : CS} {K : Ty → CS → Prop} {Kf : PySem.W.Frag} {x y t : Ty} {ts us : List Ty}
theorem atI_tys {F : Hp} {vs : List V} {i : Int} (k : Tys F vs ts) (h : atI ts i = some t) : ∃ v, atI vs i = some v ∧ t.p v F := by
  unfold atI at h ⊢
  rw [k.length]
  cases q : ixN ts.length i with
  | none => rw [q] at h; cases h
  | some j =>
    rw [q] at h
    exact k.get h
theorem r2_ix {i : Int} (h : IsQ cs x ts) (ha : atI ts i = some t) (k : K t cs) : R2W (rIx Kf) x (dI i) cs K := fun vx vy H F rx ry c Q q => by
  obtain ⟨a, vs, rfl, hs, kt⟩ := h.get Kf rx c
  obtain rfl : vy = .int i := ry
  obtain ⟨v, hv, rv⟩ := atI_tys kt ha
  have fin := q t cs v H F k (Same.refl F) c rv
  rcases hs with hs | hs
  · exact .inl ⟨a, vs, i, v, rfl, rfl, hs, hv, fin⟩
  · exact .inr (.inl ⟨a, vs, i, v, rfl, rfl, hs, hv, fin⟩)
theorem r2_ixS {z : Str} {i : Int} {c : Nat} (hl : z.length ≤ sizeLine) (ha : atI z.cps.toList i = some c) (k : K (dS ⟨#[c]⟩) cs) : R2W (rIx Kf) (dS z) (dI i) cs K := fun vx vy H F rx ry cc Q q => by
  obtain rfl : vx = .str z := rx
  obtain rfl : vy = .int i := ry
  exact .inr (.inr ⟨z, i, c, rfl, rfl, hl, ha, q _ cs _ H F k (Same.refl F) cc rfl⟩)
theorem atI_natT {j : Nat} (h : ts[j]? = some t) : atI ts (j : Int) = some t := atI_nat h

def rSlA (Kf : PySem.W.Frag) : V → Option Int → Option Int → Hp → VK → Prop := fun x lo hi H Q => rSlL Kf x lo hi H Q ∨ (rSlT Kf x lo hi H Q ∨ rSlS x lo hi H Q)
theorem sl_any {X : Cx} : SlR X (rSlA X.K) := sl_list.or (sl_tup.or sl_str)
def cutT (xs : List Ty) (lo hi : Option Int) : List Ty := (xs.drop (HT.sIx xs.length 0 lo)).take (HT.sIx xs.length xs.length hi - HT.sIx xs.length 0 lo)
theorem Tys.cut {F : Hp} {vs : List V} (k : Tys F vs ts) (lo hi : Option Int) : Tys F (cutV vs lo hi) (cutT ts lo hi) := by
  unfold cutV cutT
  rw [k.length]
  exact (k.drop _).take _
def RSW (r : V → Option Int → Option Int → Hp → VK → Prop) (x : Ty) (lo hi : Option Int) (cs : CS) (K : Ty → CS → Prop) : Prop := ∀ vx H F, x.p vx F → Cs H F cs → ∀ Q, Post F K Q → r vx lo hi H Q
theorem rs_list {lo hi : Option Int} (h : IsL cs x ts) (k : ∀ a, cs a = none → K (dR a) (cs.set a (.lst (cutT ts lo hi)))) : RSW (rSlA Kf) x lo hi cs K := fun vx H F rx c Q q => by
  obtain ⟨a, vs, rfl, hs, kt⟩ := h.get rx c
  exact .inl ⟨a, vs, rfl, .of hs, fun p hp => q _ _ _ _ F (k p (c.freeC hp)) (Same.refl F) (c.new hp ⟨_, upd_same, kt.cut lo hi⟩) rfl⟩
theorem rs_script {lo hi : Option Int} (k : ∀ a, cs a = none → K (dR a) (cs.set a (.lst (cutT ts lo hi)))) : RSW (rSlA Kf) (dF ts) lo hi cs K := fun vx H F rx c Q q => by
  obtain ⟨a, o, vs, rfl, h, kt⟩ := rx
  exact .inl ⟨a, vs, rfl, .inl (.inr ⟨o, c.sub _ _ h⟩), fun p hp => q _ _ _ _ F (k p (c.freeC hp)) (Same.refl F) (c.new hp ⟨_, upd_same, kt.cut lo hi⟩) rfl⟩
theorem rs_tup {lo hi : Option Int} (hw : ¬ (HT.sIx ts.length 0 lo = 0 ∧ HT.sIx ts.length ts.length hi = ts.length)) (k : K (dT (cutT ts lo hi)) cs) : RSW (rSlA Kf) (dT ts) lo hi cs K := fun vx H F rx c Q q => by
  obtain ⟨a, vs, rfl, hs, kt⟩ := rx
  refine .inr (.inl ⟨a, vs, rfl, .of (c.sub _ _ hs), by rw [kt.length]; exact hw, fun p hp => ?_⟩)
  have hF := c.free hp
  exact q _ _ _ _ _ k (Same.upd hF) (c.frozen hp) ⟨p, _, rfl, upd_same, (kt.cut lo hi).up (Same.upd hF)⟩
theorem rs_str {z : Str} {lo hi : Option Int} (hl : z.length ≤ sizeLine) (k : K (dS (cutS z lo hi)) cs) : RSW (rSlA Kf) (dS z) lo hi cs K := fun vx H F rx c Q q => by
  obtain rfl : vx = .str z := rx
  exact .inr (.inr ⟨z, rfl, hl, q _ _ _ _ _ k (Same.refl F) c rfl⟩)
variable {Z : Zx} {ds : Ds} {te ta : TE}
theorem wo_none {Ko : Option Int → CS → Prop} (k : Ko none cs) : WO Z tNoPart ds cs Ko := fun σ H F sl c z Q q => q none cs H F k (Same.refl F) c
theorem wo_some {Ko : Option Int → CS → Prop} (h : W Z te ds cs fun x cs1 => ∃ i, x = dI i ∧ Ko (some i) cs1) : WO Z (tPart te) ds cs Ko := fun σ H F sl c z Q q =>
  h σ H F sl c z _ fun x cs1 v H1 F1 k e c1 r => by
    obtain ⟨i, rfl, k⟩ := k
    exact ⟨i, r, q (some i) cs1 H1 F1 k e c1⟩
theorem w_sl {r : V → Option Int → Option Int → Hp → VK → Prop} {tl th : TO} (h : W Z te ds cs fun x cs1 => WO Z tl ds cs1 fun lo cs2 => WO Z th ds cs2 fun hi cs3 => RSW r x lo hi cs3 K) : W Z (tSl r te tl th) ds cs K := fun σ H F sl c z Q q =>
  h σ H F sl c z _ fun x cs1 v H1 F1 k1 e1 c1 r1 => k1 σ H1 F1 (sl.up e1) c1 (z.up e1) _ fun lo cs2 H2 F2 k2 e2 c2 => k2 σ H2 F2 (sl.up (e1.trans e2)) c2 (z.up (e1.trans e2)) _ fun hi cs3 H3 F3 k3 e3 c3 =>
    k3 v H3 F3 (x.up (e2.trans e3) r1) c3 Q (q.up (e1.trans (e2.trans e3)))
/-- len -/
def rLenA (Kf : PySem.W.Frag) : List V → Hp → VK → Prop := fun xs H Q => ∃ x n, xs = [x] ∧ LenV Kf x H n ∧ Q (.int n) H
theorem call_lenA {X : Cx} : CallR X (.builtin "len") (rLenA X.K) := call_len
theorem rl_len (h : IsQ cs x ts) (k : K (dI (ts.length : Int)) cs) : RLW (rLenA Kf) [x] cs K := fun vs H F r c Q q => by
  cases r with
  | cons rx r' =>
    cases r'
    obtain ⟨a, ws, rfl, hs, kt⟩ := h.get Kf rx c
    refine ⟨_, ws.length, rfl, ?_, ?_⟩
    · rcases hs with hs | hs
      · exact .inl ⟨ws, hs, rfl⟩
      · exact .inr ⟨ws, hs, rfl⟩
    · rw [kt.length]
      exact q _ _ _ _ _ k (Same.refl F) c rfl
theorem rl_lenS {z : Str} (hl : z.length ≤ sizeLine) (k : K (dI (z.length : Int)) cs) : RLW (rLenA Kf) [dS z] cs K := fun vs H F r c Q q => by
  cases r with
  | cons rx r' =>
    cases r'
    obtain rfl : _ = V.str z := rx
    exact ⟨_, _, rfl, ⟨hl, rfl⟩, q _ _ _ _ _ k (Same.refl F) c rfl⟩
end

/-! ### one more way: readings by cases -/
def tOrE (t u : TE) : TE := fun σ H Q => t σ H Q ∨ u σ H Q
def tOrS (t u : TS) : TS := fun D σ H => t D σ H ∨ u D σ H
def tOrT (t u : TT) : TT := fun σ H Q => t σ H Q ∨ u σ H Q
theorem pe_orE {X : Cx} {e : Expr} {t u : TE} (h : PE X e t) (h' : PE X e u) : PE X e (tOrE t u) := ⟨fun pins s σ H Q I q => q.elim (h.run pins s σ H Q I) (h'.run pins s σ H Q I)⟩
theorem pt_orT {X : Cx} {e : Expr} {t u : TT} (h : PT X e t) (h' : PT X e u) : PT X e (tOrT t u) := ⟨fun pins s σ H Q I q => q.elim (h.run pins s σ H Q I) (h'.run pins s σ H Q I)⟩
theorem ps_orS {X : Cx} {e : Stmt} {t u : TS} (h : PS X e t) (h' : PS X e u) : PS X e (tOrS t u) := ⟨fun pins s σ H D I q => q.elim (h.run pins s σ H D I) (h'.run pins s σ H D I)⟩
theorem w_inl {Z : Zx} {ds : Ds} {cs : CS} {t u : TE} {K : Ty → CS → Prop} (h : W Z t ds cs K) : W Z (tOrE t u) ds cs K := fun σ H F sl c z Q q => .inl (h σ H F sl c z Q q)
theorem w_inr {Z : Zx} {ds : Ds} {cs : CS} {t u : TE} {K : Ty → CS → Prop} (h : W Z u ds cs K) : W Z (tOrE t u) ds cs K := fun σ H F sl c z Q q => .inr (h σ H F sl c z Q q)
theorem wt_inl {Z : Zx} {ds : Ds} {cs : CS} {t u : TT} {K : Bool → CS → Prop} (h : WT Z t ds cs K) : WT Z (tOrT t u) ds cs K := fun σ H F sl c z Q q => .inl (h σ H F sl c z Q q)
theorem wt_inr {Z : Zx} {ds : Ds} {cs : CS} {t u : TT} {K : Bool → CS → Prop} (h : WT Z u ds cs K) : WT Z (tOrT t u) ds cs K := fun σ H F sl c z Q q => .inr (h σ H F sl c z Q q)
theorem ws_inl {Z : Zx} {ds : Ds} {cs : CS} {t u : TS} {E : DE} (h : WS Z t E ds cs) : WS Z (tOrS t u) E ds cs := fun σ H F D sl c z f => .inl (h σ H F D sl c z f)
theorem ws_inr {Z : Zx} {ds : Ds} {cs : CS} {t u : TS} {E : DE} (h : WS Z u E ds cs) : WS Z (tOrS t u) E ds cs := fun σ H F D sl c z f => .inr (h σ H F D sl c z f)
/-- what is never reached -/
def tBadE : TE := fun _ _ _ => False
def tBad : TS := fun _ _ _ => False
theorem pe_bad {X : Cx} {e : Expr} : PE X e tBadE := ⟨fun _ _ _ _ _ _ h => h.elim⟩
theorem ps_bad {X : Cx} {s : Stmt} : PS X s tBad := ⟨fun _ _ _ _ _ _ h => h.elim⟩
theorem pss_bad {X : Cx} {s : List Stmt} : PSs X s tBad := ⟨fun _ _ _ _ _ _ h => h.elim⟩

/-! ### operators -/
def CMulB (i j : Int) : Prop := i.natAbs.log2 + j.natAbs.log2 < 100000000
theorem CMulB.ok {i j : Int} (h : CMulB i j) : IntMulOk i j := by
  have b : ∀ x : Int, Builtin.Int.intBits x ≤ x.natAbs.log2 + 1 := fun x => by
    unfold Builtin.Int.intBits
    split <;> omega
  have h1 := b i
  have h2 := b j
  have h3 : i.natAbs.log2 + j.natAbs.log2 < 100000000 := h
  unfold IntMulOk
  intro z
  simp only [Bool.and_eq_true] at z
  have z2 := z.2
  unfold Builtin.Int.intTooBig at z2
  have z3 := of_decide_eq_true z2
  rw [show bitsLine = 134217728 by decide] at z3
  omega
def rMulA : R2 := fun x y H Q => rI CMulB (fun i j => .int (i * j)) x y H Q ∨ rRep x y H Q
theorem op_mulA {X : Cx} : OpR X (binaryOp .Mult) rMulA := OpR.or (opI fun _ _ _ _ _ _ _ hc q => mul_int q hc.ok) op_rep
def rAddS : R2 := fun x y H Q => ∃ i j, x = .str i ∧ y = .str j ∧ i.length + j.length ≤ sizeLine ∧ Q (.str (i ++ j)) H
def rAddA (Kf : PySem.W.Frag) : R2 := fun x y H Q => rI0 (fun i j => .int (i + j)) x y H Q ∨ (rAddS x y H Q ∨ (rCat x y H Q ∨ rCatT Kf x y H Q))
theorem op_addA {X : Cx} : OpR X (binaryOp .Add) (rAddA X.K) := op_add.or (op_add_str.or (op_cat.or op_catT))
def rSubI : R2 := rI0 fun i j => .int (i - j)
theorem op_subA {X : Cx} : OpR X (binaryOp .Sub) rSubI := op_sub
def rModI : R2 := rI (fun _ j => 0 < j) fun i j => .int (i % j)
theorem op_modA {X : Cx} : OpR X (binaryOp .Mod) rModI := op_mod
def rDivI : R2 := rI CDivW fun i j => .int (i / j)
theorem op_divA {X : Cx} : OpR X (binaryOp .FloorDiv) rDivI := op_fdivW
def rPowI : R2 := rI CPow fun i j => .int (i ^ j.toNat)
theorem op_powA {X : Cx} : OpR X (binaryOp .Pow) rPowI := op_pow
def rNegI : V → Hp → VK → Prop := rU fun i => .int (-i)
theorem un_negA {X : Cx} : UnR X (unaryOp .USub) rNegI := un_neg
def rLtI : R2 := rI0 fun i j => .bl (decide (i < j))
def rLeI : R2 := rI0 fun i j => .bl (decide (i ≤ j))
def rGtI : R2 := rI0 fun i j => .bl (decide (j < i))
def rGeI : R2 := rI0 fun i j => .bl (decide (j ≤ i))
theorem op_ltA {X : Cx} : OpR X (compareOp .Lt) rLtI := op_lt
theorem op_leA {X : Cx} : OpR X (compareOp .LtE) rLeI := op_le
theorem op_gtA {X : Cx} : OpR X (compareOp .Gt) rGtI := op_gt
theorem op_geA {X : Cx} : OpR X (compareOp .GtE) rGeI := op_ge
def rEqA (Kf : PySem.W.Frag) : R2 := fun x y H Q => rEq x y H Q ∨ rEqD Kf x y H Q
def rNeA (Kf : PySem.W.Frag) : R2 := fun x y H Q => rNe x y H Q ∨ rNeD Kf x y H Q
theorem op_eqA {X : Cx} (hu : X.A.units + 64 < cLine) : OpR X (compareOp .Eq) (rEqA X.K) := op_eq.or (op_eqD hu)
theorem op_neA {X : Cx} (hu : X.A.units + 64 < cLine) : OpR X (compareOp .NotEq) (rNeA X.K) := op_ne.or (op_neD hu)
def rInG : R2 := fun x y H Q => ∃ (c : Nat) (z : Str), x = .str ⟨#[c]⟩ ∧ y = .str z ∧ Q (.bl (decide (c ∈ z.cps.toList))) H
def rNiG : R2 := fun x y H Q => ∃ (c : Nat) (z : Str), x = .str ⟨#[c]⟩ ∧ y = .str z ∧ Q (.bl (!decide (c ∈ z.cps.toList))) H
def rInA (Kf : PySem.W.Frag) : R2 := fun x y H Q => rIn Kf false x y H Q ∨ rInG x y H Q
def rNiA (Kf : PySem.W.Frag) : R2 := fun x y H Q => rIn Kf true x y H Q ∨ rNiG x y H Q
theorem op_inA {X : Cx} : OpR X (compareOp .In) (rInA X.K) := op_in_seq.or op_in_sign
theorem op_niA {X : Cx} : OpR X (compareOp .NotIn) (rNiA X.K) := op_notIn_seq.or op_notIn_sign
def rIsNA : R2 := fun x y H Q => y = .non ∧ Q (.bl (decide (x = .non))) H
def rNotNA : R2 := fun x y H Q => y = .non ∧ Q (.bl (!decide (x = .non))) H
theorem op_isNA {X : Cx} : OpR X (compareOp .Is) rIsNA := op_isN
theorem op_notNA {X : Cx} : OpR X (compareOp .IsNot) rNotNA := op_notN

section
variable {cs : CS} {K : Ty → CS → Prop} {Kf : PySem.W.Frag} {x y t : Ty} {ts us : List Ty} {i j : Int}
theorem r2_I0 {g : Int → Int → V} {t : Ty} (ht : ∀ F, t.p (g i j) F) (k : K t cs) : R2W (rI0 g) (dI i) (dI j) cs K := fun vx vy H F rx ry c Q q => by
  obtain rfl : vx = .int i := rx
  obtain rfl : vy = .int j := ry
  exact ⟨i, j, rfl, rfl, q _ _ _ _ _ k (Same.refl F) c (ht F)⟩
theorem r2_I {C : Int → Int → Prop} {g : Int → Int → V} {t : Ty} (hc : C i j) (ht : ∀ F, t.p (g i j) F) (k : K t cs) : R2W (rI C g) (dI i) (dI j) cs K := fun vx vy H F rx ry c Q q => by
  obtain rfl : vx = .int i := rx
  obtain rfl : vy = .int j := ry
  exact ⟨i, j, rfl, rfl, hc, q _ _ _ _ _ k (Same.refl F) c (ht F)⟩
theorem r2_inl {r r' : R2} (h : R2W r x y cs K) : R2W (fun x y H Q => r x y H Q ∨ r' x y H Q) x y cs K := fun vx vy H F rx ry c Q q => .inl (h vx vy H F rx ry c Q q)
theorem r2_inr {r r' : R2} (h : R2W r' x y cs K) : R2W (fun x y H Q => r x y H Q ∨ r' x y H Q) x y cs K := fun vx vy H F rx ry c Q q => .inr (h vx vy H F rx ry c Q q)
theorem r2_addI (k : K (dI (i + j)) cs) : R2W (rAddA Kf) (dI i) (dI j) cs K := r2_inl (r2_I0 (fun _ => rfl) k)
theorem r2_addS {a b : Str} (hl : a.length + b.length ≤ sizeLine) (k : K (dS (a ++ b)) cs) : R2W (rAddA Kf) (dS a) (dS b) cs K := r2_inr (r2_inl fun vx vy H F rx ry c Q q => by
  obtain rfl : vx = .str a := rx
  obtain rfl : vy = .str b := ry
  exact ⟨a, b, rfl, rfl, hl, q _ _ _ _ _ k (Same.refl F) c rfl⟩)
theorem r2_addL (h1 : IsL cs x ts) (h2 : IsL cs y us) (hl : ts.length + us.length ≤ sizeLine) (k : ∀ a, cs a = none → K (dR a) (cs.set a (.lst (ts ++ us)))) : R2W (rAddA Kf) x y cs K := r2_inr (r2_inr (r2_inl fun vx vy H F rx ry c Q q => by
  obtain ⟨a, vs, rfl, ha, ka⟩ := h1.get rx c
  obtain ⟨b, ws, rfl, hb, kb⟩ := h2.get ry c
  exact ⟨a, b, vs, ws, rfl, rfl, ha, hb, by rw [ka.length, kb.length]; exact hl, fun p hp => q _ _ _ _ F (k p (c.freeC hp)) (Same.refl F) (c.new hp ⟨_, upd_same, ka.append kb⟩) rfl⟩))
theorem r2_addT (h0 : ts ≠ []) (h1 : us ≠ []) (hl : ts.length + us.length ≤ sizeLine) (k : K (dT (ts ++ us)) cs) : R2W (rAddA Kf) (dT ts) (dT us) cs K := r2_inr (r2_inr (r2_inr fun vx vy H F rx ry c Q q => by
  obtain ⟨a, vs, rfl, ha, ka⟩ := rx
  obtain ⟨b, ws, rfl, hb, kb⟩ := ry
  refine ⟨a, b, vs, ws, rfl, rfl, .of (c.sub _ _ ha), .of (c.sub _ _ hb), fun e => h0 ?_, by rw [ka.length, kb.length]; exact hl, fun e => absurd ?_ h1, fun _ p hp => ?_⟩
  · have := ka.length; rw [e] at this; exact List.eq_nil_of_length_eq_zero this.symm
  · have := kb.length; rw [e] at this; exact List.eq_nil_of_length_eq_zero this.symm
  · have hF := c.free hp
    exact q _ _ _ _ _ k (Same.upd hF) (c.frozen hp) ⟨p, _, rfl, upd_same, (ka.append kb).up (Same.upd hF)⟩))
theorem r2_subI (k : K (dI (i - j)) cs) : R2W rSubI (dI i) (dI j) cs K := r2_I0 (fun _ => rfl) k
theorem r2_mulI (hc : CMulB i j) (k : K (dI (i * j)) cs) : R2W rMulA (dI i) (dI j) cs K := r2_inl (r2_I hc (fun _ => rfl) k)
theorem r2_modI (hc : 0 < j) (k : K (dI (i % j)) cs) : R2W rModI (dI i) (dI j) cs K := r2_I hc (fun _ => rfl) k
theorem r2_divI (hc : CDivW i j) (k : K (dI (i / j)) cs) : R2W rDivI (dI i) (dI j) cs K := r2_I hc (fun _ => rfl) k
theorem r2_powI (hc : CPow i j) (k : K (dI (i ^ j.toNat)) cs) : R2W rPowI (dI i) (dI j) cs K := r2_I hc (fun _ => rfl) k
theorem r2_rep (h : IsL cs x ts) (hj : -(2 ^ 63) ≤ j) (hj2 : j < 2 ^ 63) (hl : ts.length * j.toNat ≤ sizeLine) (k : ∀ a, cs a = none → K (dR a) (cs.set a (.lst (List.replicate j.toNat ts).flatten))) : R2W rMulA x (dI j) cs K := r2_inr fun vx vy H F rx ry c Q q => by
  obtain ⟨a, vs, rfl, ha, ka⟩ := h.get rx c
  obtain rfl : vy = .int j := ry
  refine ⟨a, j, vs, rfl, rfl, ha, hj, hj2, by rw [ka.length]; exact hl, fun p hp => q _ _ _ _ F (k p (c.freeC hp)) (Same.refl F) (c.new hp ⟨_, upd_same, ?_⟩) rfl⟩
  generalize j.toNat = n
  induction n with
  | zero => exact .nil
  | succ n ih =>
    rw [List.replicate_succ, List.replicate_succ, List.flatten_cons, List.flatten_cons]
    exact ka.append ih
theorem r2_ltI (k : K (dB (decide (i < j))) cs) : R2W rLtI (dI i) (dI j) cs K := r2_I0 (fun _ => rfl) k
theorem r2_leI (k : K (dB (decide (i ≤ j))) cs) : R2W rLeI (dI i) (dI j) cs K := r2_I0 (fun _ => rfl) k
theorem r2_gtI (k : K (dB (decide (j < i))) cs) : R2W rGtI (dI i) (dI j) cs K := r2_I0 (fun _ => rfl) k
theorem r2_geI (k : K (dB (decide (j ≤ i))) cs) : R2W rGeI (dI i) (dI j) cs K := r2_I0 (fun _ => rfl) k
theorem r1_negI (k : K (dI (-i)) cs) : R1W rNegI (dI i) cs K := fun vx H F rx c Q q => by
  obtain rfl : vx = .int i := rx
  exact ⟨i, rfl, q _ _ _ _ _ k (Same.refl F) c rfl⟩
theorem r2_eqV {a b : V} (hx : ∀ v F, x.p v F → v = a) (hy : ∀ v F, y.p v F → v = b) (hs : scal a b = true) (k : K (dB (decide (a = b))) cs) : R2W (rEqA Kf) x y cs K := r2_inl fun vx vy H F rx ry c Q q => by
  obtain rfl := hx _ _ rx
  obtain rfl := hy _ _ ry
  exact ⟨hs, q _ _ _ _ _ k (Same.refl F) c rfl⟩
theorem r2_neV {a b : V} (hx : ∀ v F, x.p v F → v = a) (hy : ∀ v F, y.p v F → v = b) (hs : scal a b = true) (k : K (dB (!decide (a = b))) cs) : R2W (rNeA Kf) x y cs K := r2_inl fun vx vy H F rx ry c Q q => by
  obtain rfl := hx _ _ rx
  obtain rfl := hy _ _ ry
  exact ⟨hs, q _ _ _ _ _ k (Same.refl F) c rfl⟩
theorem dec_I {i j : Int} : decide (V.int i = V.int j) = decide (i = j) := by
  by_cases h : i = j <;> simp [h]
theorem dec_S {i j : Str} : decide (V.str i = V.str j) = decide (i = j) := by
  by_cases h : i = j <;> simp [h]
theorem dec_Bl {i j : Bool} : decide (V.bl i = V.bl j) = decide (i = j) := by
  by_cases h : i = j <;> simp [h]
theorem r2_eqI (k : K (dB (decide (i = j))) cs) : R2W (rEqA Kf) (dI i) (dI j) cs K := r2_eqV (a := .int i) (b := .int j) (fun _ _ h => h) (fun _ _ h => h) rfl (by rw [dec_I]; exact k)
theorem r2_neI (k : K (dB (!decide (i = j))) cs) : R2W (rNeA Kf) (dI i) (dI j) cs K := r2_neV (a := .int i) (b := .int j) (fun _ _ h => h) (fun _ _ h => h) rfl (by rw [dec_I]; exact k)
theorem r2_eqS {a b : Str} (k : K (dB (decide (a = b))) cs) : R2W (rEqA Kf) (dS a) (dS b) cs K := r2_eqV (a := .str a) (b := .str b) (fun _ _ h => h) (fun _ _ h => h) rfl (by rw [dec_S]; exact k)
theorem r2_neS {a b : Str} (k : K (dB (!decide (a = b))) cs) : R2W (rNeA Kf) (dS a) (dS b) cs K := r2_neV (a := .str a) (b := .str b) (fun _ _ h => h) (fun _ _ h => h) rfl (by rw [dec_S]; exact k)
theorem r2_eqB {a b : Bool} (k : K (dB (decide (a = b))) cs) : R2W (rEqA Kf) (dB a) (dB b) cs K := r2_eqV (a := .bl a) (b := .bl b) (fun _ _ h => h) (fun _ _ h => h) rfl (by rw [dec_Bl]; exact k)
theorem r2_neB {a b : Bool} (k : K (dB (!decide (a = b))) cs) : R2W (rNeA Kf) (dB a) (dB b) cs K := r2_neV (a := .bl a) (b := .bl b) (fun _ _ h => h) (fun _ _ h => h) rfl (by rw [dec_Bl]; exact k)
theorem r2_eqNI (k : K (dB false) cs) : R2W (rEqA Kf) dN (dI j) cs K := r2_eqV (a := .non) (b := .int j) (fun _ _ h => h) (fun _ _ h => h) rfl (by simpa using k)
theorem r2_eqIN (k : K (dB false) cs) : R2W (rEqA Kf) (dI i) dN cs K := r2_eqV (a := .int i) (b := .non) (fun _ _ h => h) (fun _ _ h => h) rfl (by simpa using k)
/-- deep data -/
inductive IsD (cs : CS) : Ty → PyData → Prop
  | non : IsD cs dN .none
  | bl (b : Bool) : IsD cs (dB b) (.bool b)
  | int (i : Int) : IsD cs (dI i) (.int i)
  | str (z : Str) : IsD cs (dS z) (.str z)
  | lst {x : Ty} {ts : List Ty} {es : List PyData} : IsL cs x ts → es.length = ts.length → (∀ (i : Nat) (t : Ty) (e : PyData), ts[i]? = some t → es[i]? = some e → IsD cs t e) → IsD cs x (.list es)
  | tup {ts : List Ty} {es : List PyData} : es.length = ts.length → (∀ (i : Nat) (t : Ty) (e : PyData), ts[i]? = some t → es[i]? = some e → IsD cs t e) → IsD cs (dT ts) (.tuple es)
theorem dpAll {H F : Hp} (c : Cs H F cs) : ∀ {vs : List V} {ts : List Ty} {es : List PyData}, Tys F vs ts → es.length = ts.length → (∀ (i : Nat) (t : Ty) (e : PyData) (v : V), ts[i]? = some t → es[i]? = some e → t.p v F → Dp Kf H v e) → DpAll Kf H vs es
  | _, _, [], .nil, _, _ => .nil
  | _, _, _ :: _, .nil, h, _ => by simp at h
  | _, _, [], .cons _ _, h, _ => by simp at h
  | _, _, _ :: _, .cons r rs, h, k => .cons (k 0 _ _ _ rfl rfl r) (dpAll c rs (by simpa using h) fun i t e v h1 h2 h3 => k (i + 1) t e v (by simpa using h1) (by simpa using h2) h3)
theorem IsD.dp {H F : Hp} (c : Cs H F cs) {x : Ty} {d : PyData} (h : IsD cs x d) : ∀ v, x.p v F → Dp Kf H v d := by
  induction h with
  | non => intro v r; obtain rfl : v = .non := r; exact .non
  | bl b => intro v r; obtain rfl : v = .bl b := r; exact .bl b
  | int i => intro v r; obtain rfl : v = .int i := r; exact .int i
  | str z => intro v r; obtain rfl : v = .str z := r; exact .str z
  | lst h1 h2 h3 ih =>
    intro v r
    obtain ⟨a, vs, rfl, ha, ka⟩ := h1.get r c
    exact .lst (.of ha) (dpAll c ka h2 fun i t e v h1 h2 h3 => ih i t e h1 h2 v h3)
  | tup h2 h3 ih =>
    intro v r
    obtain ⟨a, vs, rfl, ha, ka⟩ := r
    exact .tup (.of (c.sub _ _ ha)) (dpAll c ka h2 fun i t e v h1 h2 h3 => ih i t e h1 h2 v h3)
theorem IsD.intsT {ns : List Int} : IsD cs (dT (ns.map dI)) (.tuple (ns.map .int)) := .tup (by simp) fun i t e h1 h2 => by
  rw [List.getElem?_map] at h1 h2
  cases q : ns[i]? with
  | none => rw [q] at h1; cases h1
  | some n => rw [q] at h1 h2; cases h1; cases h2; exact .int n
theorem IsD.intsL {x : Ty} {ns : List Int} (h : IsL cs x (ns.map dI)) : IsD cs x (.list (ns.map .int)) := .lst h (by simp) fun i t e h1 h2 => by
  rw [List.getElem?_map] at h1 h2
  cases q : ns[i]? with
  | none => rw [q] at h1; cases h1
  | some n => rw [q] at h1 h2; cases h1; cases h2; exact .int n
theorem r2_eqD {d e : PyData} (h1 : IsD cs x d) (h2 : IsD cs y e) (s1 : SeqAt.shaped d = true) (s2 : SeqAt.shaped e = true) (k : K (dB (PyData.eqv d e)) cs) : R2W (rEqA Kf) x y cs K := r2_inr fun vx vy H F rx ry c Q q =>
  ⟨d, e, h1.dp c _ rx, h2.dp c _ ry, s1, s2, q _ _ _ _ _ k (Same.refl F) c rfl⟩
theorem r2_neD {d e : PyData} (h1 : IsD cs x d) (h2 : IsD cs y e) (s1 : SeqAt.shaped d = true) (s2 : SeqAt.shaped e = true) (k : K (dB (!PyData.eqv d e)) cs) : R2W (rNeA Kf) x y cs K := r2_inr fun vx vy H F rx ry c Q q =>
  ⟨d, e, h1.dp c _ rx, h2.dp c _ ry, s1, s2, q _ _ _ _ _ k (Same.refl F) c rfl⟩
/-- in -/
theorem inV_int (i : Int) : ∀ ns : List Int, inV (.int i) (ns.map V.int) = decide (i ∈ ns)
  | [] => rfl
  | n :: ns => by
    have ih := inV_int i ns
    unfold inV at ih ⊢
    rw [List.map_cons, List.any_cons, ih]
    by_cases h : n = i
    · subst h; simp [eqV]
    · have : ¬ i = n := fun e => h e.symm
      simp [eqV, h, this]
theorem flat_ints : ∀ ns : List Int, (ns.map V.int).all flatV = true
  | [] => rfl
  | n :: ns => by rw [List.map_cons, List.all_cons, flat_ints ns]; rfl
theorem inV_str (i : Str) : ∀ ns : List Str, inV (.str i) (ns.map V.str) = decide (i ∈ ns)
  | [] => rfl
  | n :: ns => by
    have ih := inV_str i ns
    unfold inV at ih ⊢
    rw [List.map_cons, List.any_cons, ih]
    by_cases h : n = i
    · subst h; simp [eqV]
    · have : ¬ i = n := fun e => h e.symm
      simp [eqV, h, this]
theorem flat_strs : ∀ ns : List Str, (ns.map V.str).all flatV = true
  | [] => rfl
  | n :: ns => by rw [List.map_cons, List.all_cons, flat_strs ns]; rfl
theorem r2_inI {ns : List Int} (h : IsQ cs y (ns.map dI)) (k : K (dB (decide (i ∈ ns))) cs) : R2W (rInA Kf) (dI i) y cs K := r2_inl fun vx vy H F rx ry c Q q => by
  obtain rfl : vx = .int i := rx
  obtain ⟨a, vs, rfl, hs, kt⟩ := h.get Kf ry c
  obtain rfl := kt.ints
  exact ⟨a, _, rfl, hs, rfl, flat_ints ns, q _ _ _ _ _ k (Same.refl F) c (by rw [inV_int]; rfl)⟩
theorem r2_niI {ns : List Int} (h : IsQ cs y (ns.map dI)) (k : K (dB (!decide (i ∈ ns))) cs) : R2W (rNiA Kf) (dI i) y cs K := r2_inl fun vx vy H F rx ry c Q q => by
  obtain rfl : vx = .int i := rx
  obtain ⟨a, vs, rfl, hs, kt⟩ := h.get Kf ry c
  obtain rfl := kt.ints
  exact ⟨a, _, rfl, hs, rfl, flat_ints ns, q _ _ _ _ _ k (Same.refl F) c (by rw [inV_int]; rfl)⟩
theorem r2_inS {z : Str} {ns : List Str} (h : IsQ cs y (ns.map dS)) (k : K (dB (decide (z ∈ ns))) cs) : R2W (rInA Kf) (dS z) y cs K := r2_inl fun vx vy H F rx ry c Q q => by
  obtain rfl : vx = .str z := rx
  obtain ⟨a, vs, rfl, hs, kt⟩ := h.get Kf ry c
  obtain rfl := kt.strs
  exact ⟨a, _, rfl, hs, rfl, flat_strs ns, q _ _ _ _ _ k (Same.refl F) c (by rw [inV_str]; rfl)⟩
theorem r2_niS {z : Str} {ns : List Str} (h : IsQ cs y (ns.map dS)) (k : K (dB (!decide (z ∈ ns))) cs) : R2W (rNiA Kf) (dS z) y cs K := r2_inl fun vx vy H F rx ry c Q q => by
  obtain rfl : vx = .str z := rx
  obtain ⟨a, vs, rfl, hs, kt⟩ := h.get Kf ry c
  obtain rfl := kt.strs
  exact ⟨a, _, rfl, hs, rfl, flat_strs ns, q _ _ _ _ _ k (Same.refl F) c (by rw [inV_str]; rfl)⟩
theorem r2_inG {n : Nat} {z : Str} (k : K (dB (decide (n ∈ z.cps.toList))) cs) : R2W (rInA Kf) (dS ⟨#[n]⟩) (dS z) cs K := r2_inr fun vx vy H F rx ry c Q q => by
  obtain rfl : vx = .str ⟨#[n]⟩ := rx
  obtain rfl : vy = .str z := ry
  exact ⟨n, z, rfl, rfl, q _ _ _ _ _ k (Same.refl F) c rfl⟩
theorem r2_niG {n : Nat} {z : Str} (k : K (dB (!decide (n ∈ z.cps.toList))) cs) : R2W (rNiA Kf) (dS ⟨#[n]⟩) (dS z) cs K := r2_inr fun vx vy H F rx ry c Q q => by
  obtain rfl : vx = .str ⟨#[n]⟩ := rx
  obtain rfl : vy = .str z := ry
  exact ⟨n, z, rfl, rfl, q _ _ _ _ _ k (Same.refl F) c rfl⟩
/-- is None -/
inductive NotNone : Ty → Prop
  | i (n : Int) : NotNone (dI n)
  | s (z : Str) : NotNone (dS z)
  | b (c : Bool) : NotNone (dB c)
  | r (a : Addr) : NotNone (dR a)
  | l (ts : List Ty) : NotNone (dL ts)
  | t (ts : List Ty) : NotNone (dT ts)
  | o (C : Addr) (fs : List (Str × Ty)) : NotNone (dO C fs)
theorem NotNone.ne {x : Ty} {v : V} {F : Hp} (h : NotNone x) (r : x.p v F) : v ≠ .non := by
  intro e
  subst e
  cases h with
  | i => cases (show V.non = .int _ from r)
  | s => cases (show V.non = .str _ from r)
  | b => cases (show V.non = .bl _ from r)
  | r => cases (show V.non = .ref _ from r)
  | l => obtain ⟨_, _, e, _⟩ := r; cases e
  | t => obtain ⟨_, _, e, _⟩ := r; cases e
  | o => obtain ⟨_, _, _, e, _⟩ := r; cases e
theorem r2_isN_yes (k : K (dB true) cs) : R2W rIsNA dN dN cs K := fun vx vy H F rx ry c Q q => by
  obtain rfl : vx = .non := rx
  obtain rfl : vy = .non := ry
  exact ⟨rfl, q _ _ _ _ _ k (Same.refl F) c rfl⟩
theorem r2_isN_no (h : NotNone x) (k : K (dB false) cs) : R2W rIsNA x dN cs K := fun vx vy H F rx ry c Q q => by
  obtain rfl : vy = .non := ry
  exact ⟨rfl, q _ _ _ _ _ k (Same.refl F) c (by rw [decide_eq_false (h.ne rx)]; rfl)⟩
theorem r2_notN_no (k : K (dB false) cs) : R2W rNotNA dN dN cs K := fun vx vy H F rx ry c Q q => by
  obtain rfl : vx = .non := rx
  obtain rfl : vy = .non := ry
  exact ⟨rfl, q _ _ _ _ _ k (Same.refl F) c rfl⟩
theorem r2_notN_yes (h : NotNone x) (k : K (dB true) cs) : R2W rNotNA x dN cs K := fun vx vy H F rx ry c Q q => by
  obtain rfl : vy = .non := ry
  exact ⟨rfl, q _ _ _ _ _ k (Same.refl F) c (by rw [decide_eq_false (h.ne rx)]; rfl)⟩
/-- truth -/
theorem tru_N : TruW dN cs false := fun _ v H F r c => by obtain rfl : v = .non := r; rfl
theorem tru_I : TruW (dI i) cs (i != 0) := fun _ v H F r c => by obtain rfl : v = .int i := r; rfl
theorem tru_B {b : Bool} : TruW (dB b) cs b := fun _ v H F r c => by obtain rfl : v = .bl b := r; rfl
theorem tru_Q (h : IsQ cs x ts) : TruW x cs (!ts.isEmpty) := fun Kg v H F r c => by
  obtain ⟨a, vs, rfl, hs, kt⟩ := h.get Kg r c
  rcases hs with hs | hs
  · exact .inl ⟨vs, hs, by rw [kt.isEmpty]⟩
  · exact .inr (.inl ⟨vs, hs, by rw [kt.isEmpty]⟩)
end
end S

set_option Elab.async false
set_option linter.all false
set_option maxRecDepth 100000
set_option maxHeartbeats 2000000
set_option autoImplicit false
/-! The S layer, 3: fields, calls, loops, comprehensions, built-ins. -/
namespace S
open PySem PySem.Spec PyProof.Rows L2

/-! ### fields -/
class ClsI (Kf : PySem.W.Frag) (C : Addr) : Prop where
  h : Cls Kf C
class NoA (Kf : PySem.W.Frag) (C : Addr) (f : Str) : Prop where
  h : NoAttr Kf C f
inductive IsO (cs : CS) : Ty → Addr → List (Str × Ty) → Prop
  | fz {C : Addr} {fs : List (Str × Ty)} : IsO cs (dO C fs) C fs
  | cl {a C : Addr} {fs : List (Str × Ty)} : cs a = some (.ins C fs) → IsO cs (dR a) C fs
section
variable {cs : CS} {x : Ty} {C : Addr} {fs : List (Str × Ty)} {v : V} {H F : Hp}
theorem IsO.get (h : IsO cs x C fs) (r : x.p v F) (c : Cs H F cs) : ∃ a dx fvs, v = .ref a ∧ H a = some (.ins C dx fvs) ∧ Flds F fvs fs := by
  cases h with
  | fz =>
    obtain ⟨a, dx, fvs, e, h, k⟩ := r
    exact ⟨a, dx, fvs, e, c.sub _ _ h, k⟩
  | @cl a _ _ q =>
    obtain ⟨dx, fvs, h, k⟩ := c.ins q
    exact ⟨a, dx, fvs, r, h, k⟩
end
def FldW (Kf : PySem.W.Frag) (f : Str) (x : Ty) (cs : CS) (K : Ty → CS → Prop) : Prop := ∃ C fs t, IsO cs x C fs ∧ Cls Kf C ∧ NoAttr Kf C f ∧ fs.lookup f = some t ∧ K t cs
section
variable {Z : Zx} {ds : Ds} {cs : CS} {K : Ty → CS → Prop} {Kf : PySem.W.Frag} {te ta : TE} {f : Str} {E : DE}
theorem fw {x t : Ty} {C : Addr} {fs : List (Str × Ty)} [c : ClsI Kf C] [n : NoA Kf C f] (h : IsO cs x C fs) (hl : fs.lookup f = some t) (k : K t cs) : FldW Kf f x cs K := ⟨C, fs, t, h, c.h, n.h, hl, k⟩
theorem w_fld (h : W Z ta ds cs fun x cs1 => FldW Kf f x cs1 K) : W Z (tFld Kf ta f) ds cs K := fun σ H F sl c z Q q =>
  h σ H F sl c z _ fun x cs1 v H1 F1 k e c1 r => by
    obtain ⟨C, fs, t, ho, hc, hn, hl, k⟩ := k
    obtain ⟨a, dx, fvs, rfl, ha, kf⟩ := ho.get r c1
    obtain ⟨u, l, ru⟩ := kf.look hl
    exact ⟨a, C, dx, fvs, u, rfl, ha, hc, hn, l, q _ _ _ _ _ k e c1 ru⟩
/-- a constant of the class -/
theorem w_con (h : W Z ta ds cs fun x cs1 => ∃ C fs t v u, IsO cs1 x C fs ∧ Cls Kf C ∧ Con Kf C f v u ∧ fs.lookup f = none ∧ (∀ F, Ty.p t v F) ∧ K t cs1) : W Z (tCon Kf ta f) ds cs K := fun σ H F sl c z Q q =>
  h σ H F sl c z _ fun x cs1 v H1 F1 k e c1 r => by
    obtain ⟨C, fs, t, cv, u, ho, hc, hn, hl, hp, k⟩ := k
    obtain ⟨a, dx, fvs, rfl, ha, kf⟩ := ho.get r c1
    exact ⟨a, C, dx, fvs, cv, u, rfl, ha, hc, hn, kf.no hl, q _ _ _ _ _ k e c1 (hp _)⟩
/-- self.f = e, self a cell -/
theorem ws_fld {a : Addr} {C : Addr} {fs : List (Str × Ty)} [hc : ClsI Kf C] [hn : NoA Kf C f]
    (h : W Z te ds cs fun y cs1 => W Z ta ds cs1 fun x cs2 => x = dR a ∧ cs2 a = some (.ins C fs) ∧ fs.length < 1000 ∧ E.nx ds (cs2.set a (.ins C (putT f y fs)))) : WS Z (sFld Kf ta te f) E ds cs := fun σ H F D sl c z q =>
  h σ H F sl c z _ fun y cs1 v1 H1 F1 k1 e1 c1 r1 => k1 σ H1 F1 (sl.up e1) c1 (z.up e1) _ fun x cs2 v2 H2 F2 k2 e2 c2 r2 => by
    obtain ⟨rfl, hq, hl, k⟩ := k2
    obtain rfl : v2 = .ref a := r2
    obtain ⟨dx, fvs, ha, kf⟩ := c2.ins hq
    exact ⟨a, C, dx, fvs, rfl, ha, hc.h, hn.h, by rw [kf.length]; exact hl, q.nx _ _ _ _ F2 k (e1.trans e2) (sl.up (e1.trans e2)) (c2.put hq ⟨dx, _, upd_same, kf.put (y.up e2 r1)⟩)⟩
end

/-! ### promises -/
abbrev Sg := List Ty → CS → (Ty → CS → Prop) → DK → Prop
def toSp (g : Sg) : Sp := fun vs H Q E => ∃ (F : Hp) (ts : List Ty) (cs : CS) (K : Ty → CS → Prop) (ke : DK), Tys F vs ts ∧ Cs H F cs ∧ g ts cs K ke ∧ Post F K Q ∧
  ∀ e cs' cls d H' F', ke e cs' → Same F F' → Cs H' F' cs' → e.holds cls d F' → E cls d H'
def startD (N : List Str) (ts : List Ty) : Ds := ts.map some ++ List.replicate (N.length - ts.length) none
theorem toSp.len {g : Sg} {n : Nat} (h : ∀ ts cs K ke, g ts cs K ke → ts.length = n) : ∀ vs H Q E, toSp g vs H Q E → vs.length = n := fun vs H Q E ⟨F, ts, cs, K, ke, r, _, hg, _⟩ => r.length.trans (h _ _ _ _ hg)
theorem enter {g : Sg} {t : TS} {N : List Str} {vs : List V} {H : Hp} {Q : VK} {E : XK} (hsp : toSp g vs H Q E)
    (h : ∀ ts cs K ke, g ts cs K ke → WS (ZE E ke) t { nx := fun _ cs => K dN cs, rt := K } (startD N ts) cs) : t { nx := fun _ H' => Q .non H', rt := Q } (start N vs) H := by
  obtain ⟨F, ts, cs, K, ke, r, c, hg, hp, hx⟩ := hsp
  refine h ts cs K ke hg (start N vs) H F _ (Sl.start r) c (fun σ ds e cs' cls d H' F' k e1 _ c1 hh => hx e cs' cls d H' F' k e1 c1 hh) ⟨fun ds cs' σ H' F' k e1 _ c1 => hp dN cs' _ _ _ k e1 c1 rfl, hp, fun _ _ _ _ _ k => k.elim, fun _ _ _ _ _ k => k.elim⟩
section
variable {Z : Zx} {ds : Ds} {cs : CS} {K : Ty → CS → Prop} {Kf : PySem.W.Frag} {te ta : TE} {t : TA} {g : Sg} {dvs : List V} {dts : List Ty} {E : XK} {ke : DK}
theorem w_call (hd : ∀ F, Tys F dvs dts) (h : WA (ZE E ke) t ds cs fun ts cs1 => g (ts ++ dts) cs1 K ke) : W (ZE E ke) (tCall (toSp g) dvs E t) ds cs K := fun σ H F sl c z Q q =>
  h σ H F sl c z _ fun ts cs1 vs H1 F1 k e c1 r => ⟨F1, ts ++ dts, cs1, K, ke, r.append (hd _), c1, k, q.up e, fun x cs' cls d H' F' kk e1 c2 hh => z σ ds x cs' cls d H' F' kk (e.trans e1) (sl.up (e.trans e1)) c2 hh⟩
theorem w_call0 (hd : ∀ F, Tys F dvs dts) (h : WA Z t ds cs fun ts cs1 => g (ts ++ dts) cs1 K fun _ _ => False) : W Z (tCall (toSp g) dvs E0 t) ds cs K := fun σ H F sl c z Q q =>
  h σ H F sl c z _ fun ts cs1 vs H1 F1 k e c1 r => ⟨F1, ts ++ dts, cs1, K, _, r.append (hd _), c1, k, q.up e, fun x cs' cls d H' F' kk _ _ _ => kk.elim⟩
theorem w_meth {C : Addr} {m : Str} (hd : ∀ F, Tys F dvs dts) (h : W (ZE E ke) ta ds cs fun x cs1 => ∃ fs, IsO cs1 x C fs ∧ fs.lookup m = none ∧ WA (ZE E ke) t ds cs1 fun ts cs2 => g (x :: (ts ++ dts)) cs2 K ke) :
    W (ZE E ke) (tMeth C m (toSp g) dvs E ta t) ds cs K := fun σ H F sl c z Q q =>
  h σ H F sl c z _ fun x cs1 v H1 F1 k e c1 r => by
    obtain ⟨fs, ho, hl, k⟩ := k
    obtain ⟨a, dx, fvs, rfl, ha, kf⟩ := ho.get r c1
    refine ⟨a, dx, fvs, rfl, ha, kf.no hl, ?_⟩
    exact k σ H1 F1 (sl.up e) c1 (z.up e) _ fun ts cs2 vs H2 F2 k2 e2 c2 r2 => ⟨F2, x :: (ts ++ dts), cs2, K, ke, .cons (x.up e2 r) (r2.append (hd _)), c2, k2, q.up (e.trans e2), fun y cs' cls d H' F' kk e1 c3 hh => z σ ds y cs' cls d H' F' kk ((e.trans e2).trans e1) (sl.up ((e.trans e2).trans e1)) c3 hh⟩
theorem w_meth0 {C : Addr} {m : Str} (hd : ∀ F, Tys F dvs dts) (h : W Z ta ds cs fun x cs1 => ∃ fs, IsO cs1 x C fs ∧ fs.lookup m = none ∧ WA Z t ds cs1 fun ts cs2 => g (x :: (ts ++ dts)) cs2 K fun _ _ => False) :
    W Z (tMeth C m (toSp g) dvs E0 ta t) ds cs K := fun σ H F sl c z Q q =>
  h σ H F sl c z _ fun x cs1 v H1 F1 k e c1 r => by
    obtain ⟨fs, ho, hl, k⟩ := k
    obtain ⟨a, dx, fvs, rfl, ha, kf⟩ := ho.get r c1
    refine ⟨a, dx, fvs, rfl, ha, kf.no hl, ?_⟩
    exact k σ H1 F1 (sl.up e) c1 (z.up e) _ fun ts cs2 vs H2 F2 k2 e2 c2 r2 => ⟨F2, x :: (ts ++ dts), cs2, K, _, .cons (x.up e2 r) (r2.append (hd _)), c2, k2, q.up (e.trans e2), fun y cs' cls d H' F' kk _ _ _ => kk.elim⟩
/-- C(..): a new cell, its __init__ -/
theorem made_cs {H F : Hp} {x dx C : Addr} (c : Cs H F cs) (nx : H x = none) (ndx : H dx = none) (ne : dx ≠ x) : Cs (upd (upd H dx (.own x)) x (.ins C dx [])) F (cs.set x (.ins C [])) := by
  have h1 : Same H (upd H dx (.own x)) := Same.upd ndx
  exact (c.more h1).new (by rw [upd_ne (Ne.symm ne)]; exact nx) ⟨dx, [], upd_same, .nil⟩
theorem w_make {C : Addr} (hd : ∀ F, Tys F dvs dts) (h : WA (ZE E ke) t ds cs fun ts cs1 => ∀ x, cs1 x = none → g (dR x :: (ts ++ dts)) (cs1.set x (.ins C [])) (fun r cs2 => r = dN ∧ K (dR x) cs2) ke) :
    W (ZE E ke) (tMake C (toSp g) dvs E t) ds cs K := fun σ H F sl c z Q q =>
  h σ H F sl c z _ fun ts cs1 vs H1 F1 k e c1 r => fun x dx nx ndx ne =>
    ⟨F1, dR x :: (ts ++ dts), _, _, ke, .cons rfl (r.append (hd _)), made_cs c1 nx ndx ne, k x (c1.freeC nx), fun t' cs' v H' F' kk e1 c2 rv => by
      obtain ⟨rfl, kk⟩ := kk
      exact ⟨rv, q _ _ _ _ _ kk (e.trans e1) c2 rfl⟩, fun y cs' cls d H' F' kk e1 c3 hh => z σ ds y cs' cls d H' F' kk (e.trans e1) (sl.up (e.trans e1)) c3 hh⟩
theorem w_make0 {C : Addr} (hd : ∀ F, Tys F dvs dts) (h : WA Z t ds cs fun ts cs1 => ∀ x, cs1 x = none → g (dR x :: (ts ++ dts)) (cs1.set x (.ins C [])) (fun r cs2 => r = dN ∧ K (dR x) cs2) fun _ _ => False) :
    W Z (tMake C (toSp g) dvs E0 t) ds cs K := fun σ H F sl c z Q q =>
  h σ H F sl c z _ fun ts cs1 vs H1 F1 k e c1 r => fun x dx nx ndx ne =>
    ⟨F1, dR x :: (ts ++ dts), _, _, _, .cons rfl (r.append (hd _)), made_cs c1 nx ndx ne, k x (c1.freeC nx), fun t' cs' v H' F' kk e1 c2 rv => by
      obtain ⟨rfl, kk⟩ := kk
      exact ⟨rv, q _ _ _ _ _ kk (e.trans e1) c2 rfl⟩, fun y cs' cls d H' F' kk _ _ _ => kk.elim⟩
theorem tys0 {F : Hp} : Tys F [] [] := .nil
end

/-! ### built-in methods and functions -/
section
variable {Z : Zx} {ds : Ds} {cs : CS} {K : Ty → CS → Prop} {Kf : PySem.W.Frag} {te to : TE} {t : TA} {x y : Ty} {ts us : List Ty}
def TyW (T : String) (x : Ty) (cs : CS) : Prop := ∀ (Kg : PySem.W.Frag) v H F, x.p v F → Cs H F cs → tyV Kg T v H
theorem w_bm {T : String} {r : V → List V → Hp → VK → Prop} (h : W Z to ds cs fun x cs1 => TyW T x cs1 ∧ WA Z t ds cs1 fun xs cs2 => RMW r x xs cs2 K) : W Z (tBM Kf T r to t) ds cs K := fun σ H F sl c z Q q =>
  h σ H F sl c z _ fun x cs1 v H1 F1 k e c1 r1 => ⟨k.1 Kf v H1 F1 r1 c1, k.2 σ H1 F1 (sl.up e) c1 (z.up e) _ fun xs cs2 vs H2 F2 k2 e2 c2 r2 => k2 v vs H2 F2 (x.up e2 r1) r2 c2 Q (q.up (e.trans e2))⟩
theorem w_bm0 {T : String} {r : V → List V → Hp → VK → Prop} (h : W Z to ds cs fun x cs1 => TyW T x cs1 ∧ RMW r x [] cs1 K) : W Z (tBM0 Kf T r to) ds cs K := fun σ H F sl c z Q q =>
  h σ H F sl c z _ fun x cs1 v H1 F1 k e c1 r1 => ⟨k.1 Kf v H1 F1 r1 c1, k.2 v [] H1 F1 r1 .nil c1 Q (q.up e)⟩
theorem w_m1 {r : V → List V → Hp → VK → Prop} (h : W Z to ds cs fun x cs1 => ∃ a, x = dS a ∧ W Z te ds cs1 fun y cs2 => RMW r (dS a) [y] cs2 K) : W Z (tM1 r to te) ds cs K := fun σ H F sl c z Q q =>
  h σ H F sl c z _ fun x cs1 v H1 F1 k e c1 r1 => by
    obtain ⟨a, rfl, k⟩ := k
    exact ⟨⟨a, r1⟩, k σ H1 F1 (sl.up e) c1 (z.up e) _ fun y cs2 v2 H2 F2 k2 e2 c2 r2 => k2 v [v2] H2 F2 r1 (.cons r2 .nil) c2 Q (q.up (e.trans e2))⟩
theorem tyw_list (h : IsL cs x ts) : TyW "list" x cs := fun Kg v H F r c => by
  obtain ⟨a, vs, rfl, ha, _⟩ := h.get r c
  exact .inl ⟨rfl, _, .of ha⟩
theorem rm_append {a : Addr} (h : cs a = some (.lst ts)) (hl : ts.length < sizeLine) (k : K dN (cs.set a (.lst (ts ++ [y])))) : RMW rAppend (dR a) [y] cs K := fun vx vs H F rx rs c Q q => by
  obtain rfl : vx = .ref a := rx
  obtain ⟨us, ha, ka⟩ := c.lst h
  cases rs with
  | @cons v _ _ _ r r' =>
    cases r'
    exact ⟨a, us, v, rfl, rfl, ha, by rw [ka.length]; exact hl, q _ _ _ _ F k (Same.refl F) (c.put h ⟨_, upd_same, ka.append (.one r)⟩) rfl⟩
theorem rm_extend {a : Addr} (h : cs a = some (.lst ts)) (hy : IsL cs y us) (hl : ts.length + us.length ≤ sizeLine) (k : K dN (cs.set a (.lst (ts ++ us)))) : RMW rExtend (dR a) [y] cs K := fun vx vs H F rx rs c Q q => by
  obtain rfl : vx = .ref a := rx
  obtain ⟨ws, ha, ka⟩ := c.lst h
  cases rs with
  | @cons v _ _ _ r r' =>
    cases r'
    obtain ⟨b, zs, rfl, hb, kb⟩ := hy.get r c
    exact ⟨a, b, ws, zs, rfl, rfl, ha, hb, by rw [ka.length, kb.length]; exact hl, q _ _ _ _ F k (Same.refl F) (c.put h ⟨_, upd_same, ka.append kb⟩) rfl⟩
theorem seqIx_nat {n j : Nat} (h : j < n) : seqIndex? (j : Int) n = some j := by
  unfold seqIndex?
  simp only [Int.natCast_nonneg]
  first
    | (simp; omega)
    | (split <;> simp_all <;> omega)
theorem rm_popAt {a : Addr} {j : Nat} (h : cs a = some (.lst ts)) (hj : ts[j]? = some y) (h63 : (j : Int) < 2 ^ 63) (k : K y (cs.set a (.lst (ts.eraseIdx j)))) : RMW rPopAt (dR a) [dI (j : Int)] cs K := fun vx vs H F rx rs c Q q => by
  obtain rfl : vx = .ref a := rx
  obtain ⟨ws, ha, ka⟩ := c.lst h
  cases rs with
  | @cons v _ _ _ r r' =>
    cases r'
    obtain rfl : v = .int (j : Int) := r
    obtain ⟨u, hu, ru⟩ := ka.get hj
    have hlt : j < ws.length := (List.getElem?_eq_some_iff.mp hu).1
    exact ⟨a, ws, (j : Int), j, u, rfl, rfl, ha, by omega, h63, seqIx_nat hlt, hu, q _ _ _ _ F k (Same.refl F) (c.put h ⟨_, upd_same, ka.eraseIdx j⟩) ru⟩
theorem rm_pop {a : Addr} (h : cs a = some (.lst ts)) (hj : ts[ts.length - 1]? = some y) (k : K y (cs.set a (.lst ts.dropLast))) : RMW rPop (dR a) [] cs K := fun vx vs H F rx rs c Q q => by
  obtain rfl : vx = .ref a := rx
  obtain ⟨ws, ha, ka⟩ := c.lst h
  cases rs
  obtain ⟨u, hu, ru⟩ := ka.get hj
  exact ⟨a, ws, u, rfl, rfl, ha, by rw [ka.length]; exact hu, q _ _ _ _ F k (Same.refl F) (c.put h ⟨_, upd_same, ka.dropLast⟩) ru⟩
/-- texts -/
def rJoin (Kf : PySem.W.Frag) : V → List V → Hp → VK → Prop := fun x xs H Q => ∃ a p, ∃ ys : List Str, x = .str a ∧ xs = [.ref p] ∧ (SqL Kf H p (ys.map V.str) ∨ SqT Kf H p (ys.map V.str)) ∧ (ys.map (·.length)).sum + ys.length * a.length ≤ 16777216 ∧ Q (.str (Txt.join a ys)) H
theorem mt_joinA {X : Cx} : MtR X "str.join" (rJoin X.K) := mt_join
def rSplit : V → List V → Hp → VK → Prop := fun x xs H Q => ∃ a b, x = .str a ∧ xs = [.str b] ∧ (b.length == 0) = false ∧ a.length + 2 ≤ sizeLine ∧ rNewStrs (Txt.split a b) H Q
theorem mt_splitA {X : Cx} : MtR X "str.split" rSplit := mt_split
theorem rm_join {a : Str} {ys : List Str} (h : IsQ cs y (ys.map dS)) (hl : (ys.map (·.length)).sum + ys.length * a.length ≤ 16777216) (k : K (dS (Txt.join a ys)) cs) : RMW (rJoin Kf) (dS a) [y] cs K := fun vx vs H F rx rs c Q q => by
  obtain rfl : vx = .str a := rx
  cases rs with
  | cons r r' =>
    cases r'
    obtain ⟨p, ws, rfl, hs, kt⟩ := h.get Kf r c
    obtain rfl := kt.strs
    exact ⟨a, p, ys, rfl, rfl, hs, hl, q _ _ _ _ _ k (Same.refl F) c rfl⟩
theorem rm_split {a b : Str} (hb : (b.length == 0) = false) (hl : a.length + 2 ≤ sizeLine) (k : ∀ p, cs p = none → K (dR p) (cs.set p (.lst ((Txt.split a b).map dS)))) : RMW rSplit (dS a) [dS b] cs K := fun vx vs H F rx rs c Q q => by
  obtain rfl : vx = .str a := rx
  cases rs with
  | cons r r' =>
    cases r'
    obtain rfl : _ = V.str b := r
    exact ⟨a, b, rfl, rfl, hb, hl, fun p hp => q _ _ _ _ F (k p (c.freeC hp)) (Same.refl F) (c.new hp ⟨_, upd_same, Tys.ofStrs _⟩) rfl⟩
/-- int(..), bool(..), str(..) -/
def rIntI : List V → Hp → VK → Prop := fun xs H Q => (∃ i, xs = [.int i] ∧ Q (.int i) H) ∨ ∃ k, xs = [.bl k] ∧ Q (.int (if k then 1 else 0)) H
def rIntS : List V → Hp → VK → Prop := fun xs H Q => ∃ a n, xs = [.str a] ∧ PySem.intText? a = some n ∧ a.length ≤ 640 ∧ Q (.int n) H
def rIntA : List V → Hp → VK → Prop := fun xs H Q => rIntI xs H Q ∨ rIntS xs H Q
theorem call_intA {X : Cx} : CallR X (.type "int") rIntA := call_int1.or call_int_str
theorem rl_int {i : Int} (k : K (dI i) cs) : RLW rIntA [dI i] cs K := fun vs H F rs c Q q => by
  cases rs with
  | cons r r' =>
    cases r'
    obtain rfl : _ = V.int i := r
    exact .inl (.inl ⟨i, rfl, q _ _ _ _ _ k (Same.refl F) c rfl⟩)
theorem rl_intS {a : Str} {n : Int} (h : PySem.intText? a = some n) (hl : a.length ≤ 640) (k : K (dI n) cs) : RLW rIntA [dS a] cs K := fun vs H F rs c Q q => by
  cases rs with
  | cons r r' =>
    cases r'
    obtain rfl : _ = V.str a := r
    exact .inr ⟨a, n, rfl, h, hl, q _ _ _ _ _ k (Same.refl F) c rfl⟩
def rStrI : List V → Hp → VK → Prop := fun xs H Q => ∃ i, xs = [.int i] ∧ i.natAbs.log2 < 1920 ∧ Q (.str (toString i)) H
theorem call_strI {X : Cx} : CallR X (.type "str") rStrI := call_str_int
theorem rl_strI {i : Int} (h : i.natAbs.log2 < 1920) (k : K (dS (toString i)) cs) : RLW rStrI [dI i] cs K := fun vs H F rs c Q q => by
  cases rs with
  | cons r r' =>
    cases r'
    obtain rfl : _ = V.int i := r
    exact ⟨i, rfl, h, q _ _ _ _ _ k (Same.refl F) c rfl⟩
def rBoolI : List V → Hp → VK → Prop := fun xs H Q => (∃ i, xs = [.int i] ∧ Q (.bl (i != 0)) H) ∨ ∃ k, xs = [.bl k] ∧ Q (.bl k) H
theorem call_boolI {X : Cx} : CallR X (.type "bool") rBoolI := call_bool1
theorem rl_boolB {b : Bool} (k : K (dB b) cs) : RLW rBoolI [dB b] cs K := fun vs H F rs c Q q => by
  cases rs with
  | cons r r' =>
    cases r'
    obtain rfl : _ = V.bl b := r
    exact .inr ⟨b, rfl, q _ _ _ _ _ k (Same.refl F) c rfl⟩
/-- list(..), tuple(..) -/
def rListA (Kf : PySem.W.Frag) : List V → Hp → VK → Prop := fun xs H Q => ∃ p ys, xs = [.ref p] ∧ (SqL Kf H p ys ∨ SqT Kf H p ys) ∧ ∀ l, H l = none → Q (.ref l) (upd H l (.lst ys))
theorem call_listA {X : Cx} : CallR X (.type "list") (rListA X.K) := call_list_of
theorem rl_list (h : IsQ cs x ts) (k : ∀ a, cs a = none → K (dR a) (cs.set a (.lst ts))) : RLW (rListA Kf) [x] cs K := fun vs H F rs c Q q => by
  cases rs with
  | cons r r' =>
    cases r'
    obtain ⟨p, ws, rfl, hs, kt⟩ := h.get Kf r c
    exact ⟨p, ws, rfl, hs, fun l hl => q _ _ _ _ F (k l (c.freeC hl)) (Same.refl F) (c.new hl ⟨_, upd_same, kt⟩) rfl⟩
def rTupA (Kf : PySem.W.Frag) : List V → Hp → VK → Prop := fun xs H Q => ∃ p ys, xs = [.ref p] ∧ ((SqL Kf H p ys ∧ ∀ l, H l = none → Q (.ref l) (upd H l (.tup ys))) ∨ (SqT Kf H p ys ∧ Q (.ref p) H))
theorem call_tupA {X : Cx} : CallR X (.type "tuple") (rTupA X.K) := call_tuple_of
theorem rl_tup (h : IsQ cs x ts) (k : K (dT ts) cs) : RLW (rTupA Kf) [x] cs K := fun vs H F rs c Q q => by
  cases rs with
  | cons r r' =>
    cases r'
    have mk : ∀ {p ws}, SqL Kf H p ws → Tys F ws ts → ∃ p_1 ys, [V.ref p] = [V.ref p_1] ∧ ((SqL Kf H p_1 ys ∧ ∀ l, H l = none → Q (.ref l) (upd H l (.tup ys))) ∨ (SqT Kf H p_1 ys ∧ Q (.ref p_1) H)) := fun {p ws} hs kt =>
      ⟨p, ws, rfl, .inl ⟨hs, fun l hl => q _ _ _ _ _ k (Same.upd (c.free hl)) (c.frozen hl) ⟨l, ws, rfl, upd_same, kt.up (Same.upd (c.free hl))⟩⟩⟩
    cases h with
    | fz =>
      obtain ⟨p, ws, rfl, hs, kt⟩ := r
      exact mk (.of (c.sub _ _ hs)) kt
    | sc =>
      obtain ⟨p, o, ws, rfl, hs, kt⟩ := r
      exact mk (.inl (.inr ⟨o, c.sub _ _ hs⟩)) kt
    | @cl a _ z =>
      obtain rfl : _ = V.ref a := r
      obtain ⟨ws, hs, kt⟩ := c.lst z
      exact mk (.of hs) kt
    | tp =>
      obtain ⟨p, ws, rfl, hs, kt⟩ := r
      exact ⟨p, ws, rfl, .inr ⟨.of (c.sub _ _ hs), q _ _ _ _ _ k (Same.refl F) c ⟨p, ws, rfl, hs, kt⟩⟩⟩
/-- sorted of ints: a list -/
theorem cr_sortedA {X : Cx} : CallR X (.builtin "sorted") (rSortedI X.K) := cr_sortedI
theorem rl_sorted {ns : List Int} (h : IsL cs x (ns.map dI)) (k : ∀ (a : Addr) (ns' : List Int), cs a = none → ns'.Perm ns → ns'.Pairwise (· ≤ ·) → K (dR a) (cs.set a (.lst (ns'.map dI)))) : RLW (rSortedI Kf) [x] cs K := fun vs H F rs c Q q => by
  cases rs with
  | cons r r' =>
    cases r'
    obtain ⟨p, ws, rfl, hs, kt⟩ := h.get r c
    obtain rfl := kt.ints
    exact ⟨p, ns, rfl, .of hs, fun ns' l h1 h2 hl => q _ _ _ _ F (k l ns' (c.freeC hl) h1 h2) (Same.refl F) (c.new hl ⟨_, upd_same, Tys.ofInts ns'⟩) rfl⟩
theorem rl_isi {v t : V} {u w : Value} {b : Bool} (rx : ∀ v' F, x.p v' F → v' = v) (hc : ClsV t u) (ht : ∀ v' F, y.p v' F → v' = t) (hx : ∀ H F, Cs H F cs → TyX Kf H v w) (hk : PySem.W.kitOne Kf w u = some b) (k : K (dB b) cs) : RLW (rIsi Kf) [x, y] cs K := fun vs H F rs c Q q => by
  cases rs with
  | cons r r' =>
    cases r' with
    | cons r2 r' =>
      cases r'
      obtain rfl := rx _ _ r
      obtain rfl := ht _ _ r2
      exact ⟨_, _, w, u, b, rfl, hc, hx H F c, hk, q _ _ _ _ _ k (Same.refl F) c rfl⟩
end

/-! ### loops -/
def iSeq (Kf : PySem.W.Frag) (tl : TE) : TI := fun σ H R => tl σ H fun x H1 => ∃ a, x = .ref a ∧ ((∃ xs, SqL Kf H1 a xs ∧ R (Itl Kf a) H1) ∨ ∃ xs, SqT Kf H1 a xs ∧ R (Itt Kf a) H1)
theorem pi_seq {X : Cx} {tg l : Expr} {tl : TE} (hl : PE X l tl) : PI X tg l (iSeq X.K tl) := by
  refine ⟨fun pins s σ H R I h => ?_⟩
  refine thn (hl.run pins s σ H _ I h) fun v s1 ⟨x, H1, I1, r1, q1⟩ => ?_
  obtain ⟨a, rfl, q⟩ := q1
  cases r1
  rcases q with ⟨xs, hq, q⟩ | ⟨xs, hq, q⟩
  · obtain ⟨its, rv, p, hz⟩ := I1.list hq
    refine wpAny_pyIter_list p.isList ⟨s1.heap.objs.size, [s1.heap.objs.size], _, _, H1, rfl, I1.kept (t' := s1.toks) fun b o e => Heap.get?_push_of_some _ e, turn_list a _, ⟨_, Heap.get?_push_size _ rfl, rfl, rfl⟩, fun b hb => ?_, q⟩
    obtain rfl : b = s1.heap.objs.size := by simpa using hb
    exact I1.fpOk (Nat.le_refl _) (I1.hok.fresh (Nat.le_refl _))
  · obtain ⟨its, rv, p, hz⟩ := I1.tuple hq
    refine wpAny_pyIter_tuple (show s1.heap.IsTuple a its.toArray from p) ⟨s1.heap.objs.size, [s1.heap.objs.size], _, _, H1, rfl, I1.kept (t' := s1.toks) fun b o e => Heap.get?_push_of_some _ e, turn_tuple a _, ⟨_, Heap.get?_push_size _ rfl, rfl, rfl⟩, fun b hb => ?_, q⟩
    obtain rfl : b = s1.heap.objs.size := by simpa using hb
    exact I1.fpOk (Nat.le_refl _) (I1.hok.fresh (Nat.le_refl _))
/-- list-like things -/
inductive IsS (cs : CS) : Ty → List Ty → Prop
  | fz {ts : List Ty} : IsS cs (dL ts) ts
  | sc {ts : List Ty} : IsS cs (dF ts) ts
  | cl {a : Addr} {ts : List Ty} : cs a = some (.lst ts) → IsS cs (dR a) ts
theorem IsS.get (Kf : PySem.W.Frag) {cs : CS} {x : Ty} {ts : List Ty} {v : V} {H F : Hp} (h : IsS cs x ts) (r : x.p v F) (c : Cs H F cs) : ∃ a vs, v = .ref a ∧ SqL Kf H a vs ∧ Tys F vs ts := by
  cases h with
  | fz =>
    obtain ⟨a, vs, e, h, k⟩ := r
    exact ⟨a, vs, e, .of (c.sub _ _ h), k⟩
  | sc =>
    obtain ⟨a, o, vs, e, h, k⟩ := r
    exact ⟨a, vs, e, .inl (.inr ⟨o, c.sub _ _ h⟩), k⟩
  | @cl a _ q =>
    obtain ⟨vs, h, k⟩ := c.lst q
    exact ⟨a, vs, r, .of h, k⟩
section
variable {Z : Zx} {ds : Ds} {cs : CS} {Kf : PySem.W.Frag} {te : TE} {E : DE} {tb : TS} {g : TG} {ta : TA}
def Turns (Z : Zx) (g : TG) (tb : TS) (E : DE) (ts : List Ty) (I : Nat → Ds → CS → Prop) : Prop :=
  ∀ i t ds cs, ts[i]? = some t → I i ds cs → WG Z g t ds cs fun ds2 cs2 => WS Z tb { E with nx := I (i + 1), ct := I (i + 1), bk := E.nx } ds2 cs2
theorem fit_go {D : Ends} {F0 : Hp} {I : Nat → Ds → CS → Prop} {i : Nat} {Pv : Nat → L2.St → Hp → Prop} {F2 : Hp} (hP : ∀ i σ H, (∃ ds cs F', I i ds cs ∧ Same F0 F' ∧ Sl F' σ ds ∧ Cs H F' cs) → Pv i σ H) (e : Same F0 F2) : Fit (I i) F2 (Pv i) :=
  fun ds cs σ H F' k e1 s1 c1 => hP i σ H ⟨ds, cs, F', k, e.trans e1, s1, c1⟩
/-- the turn of any walk: J at each turn hands x of the kind ts[i] -/
theorem for_core {J : It} {D : Ends} {F0 H0 : Hp} {σ0 : L2.St} {cs0 : CS} {ts : List Ty} (I : Nat → Ds → CS → Prop) (sl : Sl F0 σ0 ds) (c : Cs H0 F0 cs0) (z : Z.ok F0) (f : Fits D E F0) (i0 : I 0 ds cs0)
    (stop : ∀ ds' cs' F' H', I ts.length ds' cs' → Same F0 F' → Cs H' F' cs' → J.stop ts.length H')
    (go : ∀ i ds' cs' F' H', i < ts.length → I i ds' cs' → Same F0 F' → Cs H' F' cs' → J.go i H' ∧ ∀ x H2, J.yld i H' x H2 → ∃ t F2, ts[i]? = some t ∧ t.p x F2 ∧ Same F' F2 ∧ Cs H2 F2 cs')
    (turn : Turns Z g tb E ts I) (fin : ∀ ds' cs', I ts.length ds' cs' → E.nx ds' cs') :
    ∃ W : Nat → Nat → L2.St → Hp → Prop, (∃ m, W 0 m σ0 H0) ∧ ∀ i m σ H, W i m σ H → (J.stop i H ∧ D.nx σ H) ∨ (J.go i H ∧ ∃ N : L2.St → Hp → Prop, (∀ σ' H', N σ' H' → ∃ m', m' < m ∧ W (i + 1) m' σ' H') ∧
      ∀ x H', J.yld i H x H' → g x σ H' fun σ2 H2 => tb { D with nx := N, ct := N, bk := D.nx } σ2 H2) := by
  refine ⟨fun i m σ H => m = ts.length - i ∧ i ≤ ts.length ∧ ∃ ds' cs' F', I i ds' cs' ∧ Same F0 F' ∧ Sl F' σ ds' ∧ Cs H F' cs', ⟨ts.length, by simp, Nat.zero_le _, ds, cs0, F0, i0, Same.refl _, sl, c⟩, ?_⟩
  rintro i m σ H ⟨rfl, hi, ds', cs', F', ii, e, s', c'⟩
  by_cases hlt : i < ts.length
  · obtain ⟨h1, h2⟩ := go i ds' cs' F' H hlt ii e c'
    refine .inr ⟨h1, fun σ' H' => ∃ ds' cs' F', I (i + 1) ds' cs' ∧ Same F0 F' ∧ Sl F' σ' ds' ∧ Cs H' F' cs', fun σ' H' p => ⟨ts.length - (i + 1), by omega, rfl, hlt, p⟩, fun x H2 y => ?_⟩
    obtain ⟨t, F2, ht, rx, e2, c2⟩ := h2 x H2 y
    have e02 := e.trans e2
    refine turn i t ds' cs' ht ii x σ H2 F2 rx (s'.up e2) c2 (z.up e02) _ fun ds3 cs3 σ3 H3 F3 k e3 s3 c3 => ?_
    have e03 := e02.trans e3
    exact k σ3 H3 F3 _ s3 c3 (z.up e03) ⟨fun ds4 cs4 σ4 H4 F4 k4 e4 s4 c4 => ⟨ds4, cs4, F4, k4, e03.trans e4, s4, c4⟩, f.rt.up e03, f.nx.up e03, fun ds4 cs4 σ4 H4 F4 k4 e4 s4 c4 => ⟨ds4, cs4, F4, k4, e03.trans e4, s4, c4⟩⟩
  · obtain rfl : i = ts.length := by omega
    exact .inl ⟨stop _ _ _ _ ii e c', f.nx _ _ _ _ _ (fin _ _ ii) e s' c'⟩
theorem ws_forL (h : W Z te ds cs fun x cs1 => ∃ ts, IsS cs1 x ts ∧ ∃ I : Nat → Ds → CS → Prop, I 0 ds cs1 ∧ (∀ i ds' cs', I i ds' cs' → IsS cs' x ts) ∧ Turns Z g tb E ts I ∧ (∀ ds' cs', I ts.length ds' cs' → E.nx ds' cs')) :
    WS Z (tFor (iSeq Kf te) g tb) E ds cs := fun σ H F D sl c z f =>
  h σ H F sl c z _ fun x cs1 v H1 F1 k e c1 r => by
    obtain ⟨ts, hq, I, i0, ist, iturn, iend⟩ := k
    obtain ⟨a, vs, rfl, hs, kt⟩ := hq.get Kf r c1
    have here : ∀ {i ds' cs' F' H'}, I i ds' cs' → Same F1 F' → Cs H' F' cs' → ∃ ws, SqL Kf H' a ws ∧ Tys F' ws ts := fun {i ds' cs' F' H'} ii e' c' => by
      obtain ⟨b, ws, eb, hw, kw⟩ := (ist i ds' cs' ii).get Kf (x.up e' r) c'
      cases eb
      exact ⟨ws, hw, kw⟩
    refine ⟨a, rfl, .inl ⟨vs, hs, for_core (F0 := F1) (cs0 := cs1) (ts := ts) I (sl.up e) c1 (z.up e) (f.up e) i0 (fun ds' cs' F' H' ii e' c' => ?_) (fun i ds' cs' F' H' hi ii e' c' => ?_) iturn iend⟩⟩
    · obtain ⟨ws, hw, kw⟩ := here ii e' c'
      exact ⟨ws, hw, by rw [kw.length]; exact Nat.le_refl _⟩
    · obtain ⟨ws, hw, kw⟩ := here ii e' c'
      have hi' : i < ws.length := by rw [kw.length]; exact hi
      refine ⟨⟨ws, ws[i], hw, by simp [hi']⟩, fun x' H2 y => ?_⟩
      obtain ⟨rfl, y⟩ := y
      obtain ⟨t, ht, rt⟩ := kw.getV (y ws hw)
      exact ⟨t, F', ht, rt, Same.refl _, c'⟩
theorem ws_forT (h : W Z te ds cs fun x cs1 => ∃ ts, x = dT ts ∧ ∃ I : Nat → Ds → CS → Prop, I 0 ds cs1 ∧ Turns Z g tb E ts I ∧ (∀ ds' cs', I ts.length ds' cs' → E.nx ds' cs')) :
    WS Z (tFor (iSeq Kf te) g tb) E ds cs := fun σ H F D sl c z f =>
  h σ H F sl c z _ fun x cs1 v H1 F1 k e c1 r => by
    obtain ⟨ts, rfl, I, i0, iturn, iend⟩ := k
    obtain ⟨a, vs, rfl, hs, kt⟩ := r
    have here : ∀ {F' H' cs'}, Same F1 F' → Cs H' F' cs' → SqT Kf H' a vs ∧ Tys F' vs ts := fun {F' H' cs'} e' c' => ⟨.of (c'.sub _ _ (e' _ _ hs)), kt.up e'⟩
    refine ⟨a, rfl, .inr ⟨vs, .of (c1.sub _ _ hs), for_core (F0 := F1) (cs0 := cs1) (ts := ts) I (sl.up e) c1 (z.up e) (f.up e) i0 (fun ds' cs' F' H' ii e' c' => ?_) (fun i ds' cs' F' H' hi ii e' c' => ?_) iturn iend⟩⟩
    · obtain ⟨hw, kw⟩ := here e' c'
      exact ⟨vs, hw, by rw [kw.length]; exact Nat.le_refl _⟩
    · obtain ⟨hw, kw⟩ := here e' c'
      have hi' : i < vs.length := by rw [kw.length]; exact hi
      refine ⟨⟨vs, vs[i], hw, by simp [hi']⟩, fun x' H2 y => ?_⟩
      obtain ⟨rfl, y⟩ := y
      obtain ⟨t, ht, rt⟩ := kw.getV (y vs hw)
      exact ⟨t, F', ht, rt, Same.refl _, c'⟩
/-- for .. in range -/
def rngT (lo : Int) (n : Nat) : List Ty := (List.range n).map fun (k : Nat) => dI (lo + (k : Int))
theorem rngT_len {lo : Int} {n : Nat} : (rngT lo n).length = n := by simp [rngT]
theorem rngT_get {lo : Int} {n i : Nat} {t : Ty} (h : (rngT lo n)[i]? = some t) : i < n ∧ t = dI (lo + (i : Int)) := by
  unfold rngT at h
  rw [List.getElem?_map] at h
  by_cases hi : i < n
  · rw [List.getElem?_range hi] at h; simp at h; exact ⟨hi, h.symm⟩
  · rw [List.getElem?_eq_none (by simpa using hi)] at h; cases h
theorem for_rng {D : Ends} {F0 H0 : Hp} {σ0 : L2.St} {cs0 : CS} {lo : Int} {n : Nat} (I : Nat → Ds → CS → Prop) (sl : Sl F0 σ0 ds) (c : Cs H0 F0 cs0) (z : Z.ok F0) (f : Fits D E F0) (i0 : I 0 ds cs0)
    (turn : ∀ i ds cs, i < n → I i ds cs → WG Z g (dI (lo + (i : Int))) ds cs fun ds2 cs2 => WS Z tb { E with nx := I (i + 1), ct := I (i + 1), bk := E.nx } ds2 cs2) (fin : ∀ ds' cs', I n ds' cs' → E.nx ds' cs') :
    ∃ W : Nat → Nat → L2.St → Hp → Prop, (∃ m, W 0 m σ0 H0) ∧ ∀ i m σ H, W i m σ H → ((Itr lo n).stop i H ∧ D.nx σ H) ∨ ((Itr lo n).go i H ∧ ∃ N : L2.St → Hp → Prop, (∀ σ' H', N σ' H' → ∃ m', m' < m ∧ W (i + 1) m' σ' H') ∧
      ∀ x H', (Itr lo n).yld i H x H' → g x σ H' fun σ2 H2 => tb { D with nx := N, ct := N, bk := D.nx } σ2 H2) := by
  have hl : (rngT lo n).length = n := rngT_len
  refine for_core (ts := rngT lo n) I sl c z f i0 (fun _ _ _ _ _ _ _ => by rw [hl]; exact Nat.le_refl n) (fun i ds' cs' F' H' hi _ _ c' => ⟨by rw [hl] at hi; exact hi, fun x H2 y => ?_⟩) (fun i t ds cs ht ii => ?_) (by rw [hl]; exact fin)
  · obtain ⟨rfl, rfl⟩ := y
    exact ⟨dI (lo + (i : Int)), F', by unfold rngT; rw [List.getElem?_map, List.getElem?_range (by rw [hl] at hi; exact hi)]; rfl, rfl, Same.refl _, c'⟩
  · obtain ⟨h1, rfl⟩ := rngT_get ht
    exact turn i ds cs h1 ii
theorem ws_forR1 (h : WA Z ta ds cs fun xs cs1 => ∃ n : Int, xs = [dI n] ∧ -(2 ^ 62) ≤ n ∧ n < 2 ^ 62 ∧ ∃ I : Nat → Ds → CS → Prop, I 0 ds cs1 ∧ (∀ i ds cs, i < n.toNat → I i ds cs → WG Z g (dI (0 + (i : Int))) ds cs fun ds2 cs2 => WS Z tb { E with nx := I (i + 1), ct := I (i + 1), bk := E.nx } ds2 cs2) ∧
      (∀ ds' cs', I n.toNat ds' cs' → E.nx ds' cs')) : WS Z (tFor (iRng1 ta) g tb) E ds cs := fun σ H F D sl c z f =>
  h σ H F sl c z _ fun xs cs1 vs H1 F1 k e c1 r => by
    obtain ⟨n, rfl, b1, b2, I, i0, turn, fin⟩ := k
    cases r with
    | cons r r' =>
      cases r'
      obtain rfl : _ = V.int n := r
      exact ⟨n, rfl, b1, b2, for_rng I (sl.up e) c1 (z.up e) (f.up e) i0 turn fin⟩
theorem ws_forR2 (h : WA Z ta ds cs fun xs cs1 => ∃ m n : Int, xs = [dI m, dI n] ∧ (-(2 ^ 62) ≤ m ∧ m < 2 ^ 62 ∧ -(2 ^ 62) ≤ n ∧ n < 2 ^ 62) ∧ ∃ I : Nat → Ds → CS → Prop, I 0 ds cs1 ∧ (∀ i ds cs, i < (n - m).toNat → I i ds cs → WG Z g (dI (m + (i : Int))) ds cs fun ds2 cs2 => WS Z tb { E with nx := I (i + 1), ct := I (i + 1), bk := E.nx } ds2 cs2) ∧
      (∀ ds' cs', I (n - m).toNat ds' cs' → E.nx ds' cs')) : WS Z (tFor (iRng2 ta) g tb) E ds cs := fun σ H F D sl c z f =>
  h σ H F sl c z _ fun xs cs1 vs H1 F1 k e c1 r => by
    obtain ⟨m, n, rfl, b, I, i0, turn, fin⟩ := k
    cases r with
    | cons r r' =>
      cases r' with
      | cons r2 r' =>
        cases r'
        obtain rfl : _ = V.int m := r
        obtain rfl : _ = V.int n := r2
        exact ⟨m, n, rfl, b, for_rng I (sl.up e) c1 (z.up e) (f.up e) i0 turn fin⟩
/-- for .. in a text -/
theorem ws_forS (h : W Z te ds cs fun x cs1 => ∃ s : Str, x = dS s ∧ ∃ I : Nat → Ds → CS → Prop, I 0 ds cs1 ∧ (∀ i n ds cs, s.cps.toList[i]? = some n → I i ds cs → WG Z g (dS ⟨#[n]⟩) ds cs fun ds2 cs2 => WS Z tb { E with nx := I (i + 1), ct := I (i + 1), bk := E.nx } ds2 cs2) ∧
      (∀ ds' cs', I s.cps.size ds' cs' → E.nx ds' cs')) : WS Z (tFor (iStr te) g tb) E ds cs := fun σ H F D sl c z f =>
  h σ H F sl c z _ fun x cs1 v H1 F1 k e c1 r => by
    obtain ⟨s, rfl, I, i0, turn, fin⟩ := k
    obtain rfl : v = V.str s := r
    refine ⟨s, rfl, for_core (F0 := F1) (cs0 := cs1) (ts := s.cps.toList.map fun n => dS ⟨#[n]⟩) I (sl.up e) c1 (z.up e) (f.up e) i0 (fun _ _ _ _ _ _ _ => ?_) (fun i ds' cs' F' H' hi _ _ c' => ⟨?_, fun x H2 y => ?_⟩) (fun i t ds cs ht ii => ?_) ?_⟩
    · show s.cps.size ≤ _
      simp
    · show i < s.cps.size
      simpa using hi
    · obtain ⟨rfl, n, hn, rfl⟩ := y
      exact ⟨dS ⟨#[n]⟩, F', by simp [hn], rfl, Same.refl _, c'⟩
    · rw [List.getElem?_map] at ht
      cases q : s.cps.toList[i]? with
      | none => rw [q] at ht; cases ht
      | some n => rw [q] at ht; cases ht; exact turn i n ds cs q ii
    · simpa using fin
/-- while, by I and a measure -/
theorem ws_while {tt : TT} (I : Nat → Ds → CS → Prop) (m0 : Nat) (i0 : I m0 ds cs)
    (turn : ∀ m ds cs, I m ds cs → WT Z tt ds cs fun b cs1 => if b = true then WS Z tb { E with nx := fun ds2 cs2 => ∃ m', m' < m ∧ I m' ds2 cs2, ct := fun ds2 cs2 => ∃ m', m' < m ∧ I m' ds2 cs2, bk := E.nx } ds cs1 else E.nx ds cs1) :
    WS Z (tWhile tt tb) E ds cs := fun σ H F D sl c z f => by
  refine ⟨fun m σ' H' => ∃ ds' cs' F', I m ds' cs' ∧ Same F F' ∧ Sl F' σ' ds' ∧ Cs H' F' cs', ⟨m0, ds, cs, F, i0, Same.refl _, sl, c⟩, ?_⟩
  rintro m σ' H' ⟨ds', cs', F', ii, e, s', c'⟩
  refine turn m ds' cs' ii σ' H' F' s' c' (z.up e) _ fun b cs1 H1 F1 k e1 c1 => ?_
  have e01 := e.trans e1
  cases b with
  | true =>
    rw [if_pos rfl] at k ⊢
    have go : Fit (fun ds2 cs2 => ∃ m', m' < m ∧ I m' ds2 cs2) F1 (fun σ' H' => ∃ m', m' < m ∧ ∃ ds' cs' F', I m' ds' cs' ∧ Same F F' ∧ Sl F' σ' ds' ∧ Cs H' F' cs') := fun ds4 cs4 σ4 H4 F4 ⟨m', hm, k4⟩ e4 s4 c4 => ⟨m', hm, ds4, cs4, F4, k4, e01.trans e4, s4, c4⟩
    exact ⟨_, fun σ2 H2 p => p, k σ' H1 F1 _ (s'.up e1) c1 (z.up e01) ⟨go, f.rt.up e01, f.nx.up e01, go⟩⟩
  | false =>
    rw [if_neg Bool.false_ne_true] at k ⊢
    exact f.nx _ _ _ _ _ k e01 (s'.up e1) c1
end
end S

set_option Elab.async false
set_option linter.all false
set_option maxRecDepth 100000
set_option maxHeartbeats 2000000
set_option autoImplicit false
/-! The S layer, 4: comprehensions, isinstance, f-strings, tuple targets. -/
namespace S
open PySem PySem.Spec PyProof.Rows L2

/-! ### the slots of a block -/
def wipeD (ds : Ds) : List Nat → Ds
  | [] => ds
  | v :: vs => (wipeD ds vs).set v none
theorem Sl.wipes {F : Hp} {σ : L2.St} {ds : Ds} (h : Sl F σ ds) : ∀ vs : List Nat, Sl F (L2.wipe σ vs) (wipeD ds vs)
  | [] => h
  | _ :: vs => (h.wipes vs).wipe1
theorem wipe_set {a : Option V} : ∀ {vs : List Nat} {σ : L2.St} {j : Nat}, j ∈ vs → wipe (σ.set j a) vs = wipe σ vs
  | [], _, _, h => by cases h
  | v :: vs, σ, j, h => by
    show (wipe (σ.set j a) vs).set v none = (wipe σ vs).set v none
    by_cases hj : j ∈ vs
    · rw [wipe_set hj]
    · have e : j = v := by
        rcases List.mem_cons.mp h with h | h
        · exact h
        · exact absurd h hj
      subst e
      have key : ∀ (us : List Nat), j ∉ us → wipe (σ.set j a) us = (wipe σ us).set j a := by
        intro us
        induction us with
        | nil => intro _; rfl
        | cons u us ih =>
          intro hu
          show (wipe (σ.set j a) us).set u none = ((wipe σ us).set u none).set j a
          rw [ih (fun z => hu (List.mem_cons_of_mem _ z)), List.set_comm]
          intro z
          exact hu (by rw [z]; exact List.mem_cons_self)
      rw [key vs hj, List.set_set]
theorem wipe_wipe : ∀ {vs us : List Nat} {σ : L2.St}, (∀ v ∈ vs, v ∈ us) → wipe (wipe σ vs) us = wipe σ us
  | [], _, _, _ => rfl
  | v :: vs, us, σ, h => by
    show wipe ((wipe σ vs).set v none) us = _
    rw [wipe_set (h v List.mem_cons_self), wipe_wipe fun w hw => h w (List.mem_cons_of_mem _ hw)]
/-- a target that stores in the block's own slots alone -/
def GOnly (g : TG) (vs : List Nat) : Prop := ∀ v σ H Q, g v σ H Q → g v σ H fun σ2 H2 => Q σ2 H2 ∧ wipe σ2 vs = wipe σ vs
def GsOnly (g : TGs) (vs : List Nat) : Prop := ∀ xs σ H Q, g xs σ H Q → g xs σ H fun σ2 H2 => Q σ2 H2 ∧ wipe σ2 vs = wipe σ vs
theorem gonly_name {j : Nat} {vs : List Nat} (h : j ∈ vs) : GOnly (gName j) vs := fun v σ H Q q => ⟨q, wipe_set h⟩
theorem gsonly_nil {vs : List Nat} : GsOnly gNil vs := fun xs σ H Q ⟨e, q⟩ => ⟨e, q, rfl⟩
def GMono (g : TG) : Prop := ∀ v σ H (Q Q' : L2.St → Hp → Prop), (∀ σ H, Q σ H → Q' σ H) → g v σ H Q → g v σ H Q'
def GsMono (g : TGs) : Prop := ∀ v σ H (Q Q' : L2.St → Hp → Prop), (∀ σ H, Q σ H → Q' σ H) → g v σ H Q → g v σ H Q'
theorem gmono_name {j : Nat} : GMono (gName j) := fun v σ H Q Q' h q => h _ _ q
theorem gsmono_nil : GsMono gNil := fun v σ H Q Q' h ⟨e, q⟩ => ⟨e, h _ _ q⟩
theorem gsmono_cons {g : TG} {r : TGs} (h1 : GMono g) (h2 : GsMono r) : GsMono (gCons g r) := fun v σ H Q Q' h ⟨x, xs, e, q⟩ => ⟨x, xs, e, h1 _ _ _ _ _ (fun σ H q => h2 _ _ _ _ _ h q) q⟩
theorem gsonly_cons {g : TG} {r : TGs} {vs : List Nat} (m1 : GMono g) (m2 : GsMono r) (h1 : GOnly g vs) (h2 : GsOnly r vs) : GsOnly (gCons g r) vs := fun xs σ H Q ⟨x, ys, e, q⟩ =>
  ⟨x, ys, e, m1 _ _ _ _ _ (fun σ2 H2 ⟨q2, e2⟩ => m2 _ _ _ _ _ (fun σ3 H3 ⟨q3, e3⟩ => ⟨q3, e3.trans e2⟩) (h2 _ _ _ _ q2)) (h1 _ _ _ _ q)⟩
theorem gonly_tup {Kf : PySem.W.Frag} {n : Nat} {r : TGs} {vs : List Nat} (h : GsOnly r vs) : GOnly (gTup Kf n r) vs := fun v σ H Q ⟨a, xs, e, hs, hl, q⟩ => ⟨a, xs, e, hs, hl, h _ _ _ _ q⟩
theorem gmono_tup {Kf : PySem.W.Frag} {n : Nat} {r : TGs} (h : GsMono r) : GMono (gTup Kf n r) := fun v σ H Q Q' hh ⟨a, xs, e, hs, hl, q⟩ => ⟨a, xs, e, hs, hl, h _ _ _ _ _ hh q⟩
/-- several targets -/
def WGs (Z : Zx) (g : TGs) (ts : List Ty) (ds : Ds) (cs : CS) (K : Ds → CS → Prop) : Prop := ∀ vs σ H F, Tys F vs ts → Sl F σ ds → Cs H F cs → Z.ok F → ∀ Q : L2.St → Hp → Prop, Fit K F Q → g vs σ H Q
section
variable {Z : Zx} {ds : Ds} {cs : CS} {Kf : PySem.W.Frag} {K : Ds → CS → Prop}
theorem wgs_nil (k : K ds cs) : WGs Z gNil [] ds cs K := fun vs σ H F r sl c z Q q => by
  cases r
  exact ⟨rfl, q _ _ _ _ _ k (Same.refl F) sl c⟩
theorem wgs_cons {g : TG} {r : TGs} {t : Ty} {ts : List Ty} (h : WG Z g t ds cs fun ds1 cs1 => WGs Z r ts ds1 cs1 K) : WGs Z (gCons g r) (t :: ts) ds cs K := fun vs σ H F rr sl c z Q q => by
  cases rr with
  | @cons v _ vs _ r1 r2 => exact ⟨v, vs, rfl, h v σ H F r1 sl c z _ fun ds1 cs1 σ1 H1 F1 k e s1 c1 => k vs σ1 H1 F1 (r2.up e) s1 c1 (z.up e) Q (q.up e)⟩
theorem wg_tup {n : Nat} {r : TGs} {ts : List Ty} (hn : ts.length = n) (h : WGs Z r ts ds cs K) : WG Z (gTup Kf n r) (dT ts) ds cs K := fun v σ H F rr sl c z Q q => by
  obtain ⟨a, vs, rfl, hs, kt⟩ := rr
  exact ⟨a, vs, rfl, .of (c.sub _ _ hs), by rw [kt.length]; exact hn, h vs σ H F kt sl c z Q q⟩
end

/-! ### comprehensions -/
section
variable {Z : Zx} {ds : Ds} {cs : CS} {Kf : PySem.W.Frag} {K : Ty → CS → Prop} {g : TG} {tt : TT} {te tl : TE} {vs : List Nat} {ta : TA}
/-- the turn of a comprehension: I i acc cs ahead of the i-th turn; at D stands acc -/
def LTurns (Z : Zx) (g : TG) (tt : TT) (te : TE) (dw : Ds) (D : Addr) (n : Nat) (item : Nat → Ty → Prop) (I : Nat → List Ty → CS → Prop) : Prop :=
  ∀ i t acc cs, i < n → item i t → cs D = some (.lst acc) → I i acc cs → WG Z g t dw cs fun ds2 cs2 => WT Z tt ds2 cs2 fun b cs3 =>
    if b = true then W Z te ds2 cs3 fun y cs4 => cs4 D = some (.lst acc) ∧ acc.length < sizeLine ∧ I (i + 1) (acc ++ [y]) (cs4.set D (.lst (acc ++ [y]))) else cs3 D = some (.lst acc) ∧ I (i + 1) acc cs3
theorem lc_coreS {J : It} {Q : VK} {F0 H0 : Hp} {σ0 : L2.St} {cs0 : CS} {n : Nat} {item : Nat → Ty → Prop} (go1 : GOnly g vs) (sl : Sl F0 σ0 ds) (z : Z.ok F0) (q : Post F0 K Q)
    (I : Addr → Nat → List Ty → CS → Prop) (D : Addr) (c : Cs H0 F0 cs0) (hD : H0 D = none) (i0 : I D 0 [] (cs0.set D (.lst [])))
    (stop : ∀ acc cs' F' H', I D n acc cs' → Same F0 F' → Cs H' F' cs' → J.stop n H')
    (go : ∀ i acc cs' F' H', i < n → I D i acc cs' → Same F0 F' → Cs H' F' cs' → J.go i H' ∧ ∀ x H2, J.yld i H' x H2 → ∃ t F2, item i t ∧ t.p x F2 ∧ Same F' F2 ∧ Cs H2 F2 cs')
    (turn : LTurns Z g tt te (wipeD ds vs) D n item (I D)) (fin : ∀ acc cs', cs' D = some (.lst acc) → I D n acc cs' → K (dR D) cs') :
    ∃ W : Nat → Nat → Hp → Prop, (∃ m, W 0 m (upd H0 D (.lst []))) ∧ ∀ i m H, W i m H → (J.stop i H ∧ Q (.ref D) H) ∨ (J.go i H ∧ ∃ Nx : Hp → Prop, (∀ H', Nx H' → ∃ m', m' < m ∧ W (i + 1) m' H') ∧
      ∀ x H', J.yld i H x H' → g x (wipe σ0 vs) H' fun σ2 H2 => wipe σ2 vs = wipe σ0 vs ∧ tt σ2 H2 fun b H3 => if b = true then te σ2 H3 fun y H4 => ∃ acc, H4 D = some (.lst acc) ∧ acc.length < sizeLine ∧ Nx (upd H4 D (.lst (acc ++ [y]))) else Nx H3) := by
  refine ⟨fun i m H => m = n - i ∧ i ≤ n ∧ ∃ acc cs' F', cs' D = some (.lst acc) ∧ I D i acc cs' ∧ Same F0 F' ∧ Cs H F' cs', ⟨n, by simp, Nat.zero_le _, [], _, F0, CS.same, i0, Same.refl _, c.new hD ⟨[], upd_same, .nil⟩⟩, ?_⟩
  rintro i m H ⟨rfl, hi, acc, cs', F', hc, ii, e, c'⟩
  by_cases hlt : i < n
  · obtain ⟨h1, h2⟩ := go i acc cs' F' H hlt ii e c'
    refine .inr ⟨h1, fun H' => ∃ acc cs' F', cs' D = some (.lst acc) ∧ I D (i + 1) acc cs' ∧ Same F0 F' ∧ Cs H' F' cs', fun H' p => ⟨n - (i + 1), by omega, rfl, hlt, p⟩, fun x H2 y => ?_⟩
    obtain ⟨t, F2, ht, rx, e2, c2⟩ := h2 x H2 y
    have e02 := e.trans e2
    have w1 := turn i t acc cs' hlt ht hc ii x (wipe σ0 vs) H2 F2 rx ((sl.up e02).wipes vs) c2 (z.up e02) (fun σ2 H2 => tt σ2 H2 fun b H3 => if b = true then te σ2 H3 fun y H4 => ∃ acc, H4 D = some (.lst acc) ∧ acc.length < sizeLine ∧ (∃ acc' cs' F', cs' D = some (.lst acc') ∧ I D (i + 1) acc' cs' ∧ Same F0 F' ∧ Cs (upd H4 D (.lst (acc ++ [y]))) F' cs') else (∃ acc cs' F', cs' D = some (.lst acc) ∧ I D (i + 1) acc cs' ∧ Same F0 F' ∧ Cs H3 F' cs')) ?_
    · have w2 := go1 _ _ _ _ w1
      have fix : ∀ {σ2 : L2.St}, wipe σ2 vs = wipe (wipe σ0 vs) vs → wipe σ2 vs = wipe σ0 vs := fun {σ2} h => h.trans (wipe_wipe fun _ h => h)
      have w3 := go1 _ _ _ _ w2
      first
        | exact (show g x (wipe σ0 vs) H2 _ from by
            have := go1 x (wipe σ0 vs) H2 _ w1
            refine cast ?_ this
            congr 1
            funext σ2 H2
            rw [wipe_wipe (vs := vs) (us := vs) (σ := σ0) fun _ h => h]
            exact propext ⟨fun h => ⟨h.2, h.1⟩, fun h => ⟨h.2, h.1⟩⟩)
    · intro ds3 cs3 σ3 H3 F3 k e3 s3 c3
      have e03 := e02.trans e3
      refine k σ3 H3 F3 s3 c3 (z.up e03) _ fun b cs4 H4 F4 k4 e4 c4 => ?_
      have e04 := e03.trans e4
      cases b with
      | true =>
        rw [if_pos rfl] at k4 ⊢
        refine k4 σ3 H4 F4 (s3.up e4) c4 (z.up e04) _ fun y cs5 v5 H5 F5 k5 e5 c5 r5 => ?_
        obtain ⟨hc5, hl, i5⟩ := k5
        obtain ⟨ws, hw, kw⟩ := c5.lst hc5
        exact ⟨ws, hw, by rw [kw.length]; exact hl, _, _, F5, CS.same, i5, e04.trans e5, c5.put hc5 ⟨_, upd_same, kw.append (.one r5)⟩⟩
      | false =>
        rw [if_neg Bool.false_ne_true] at k4 ⊢
        exact ⟨acc, cs4, F4, k4.1, k4.2, e04, c4⟩
  · obtain rfl : i = n := by omega
    exact .inl ⟨stop _ _ _ _ ii e c', q _ _ _ _ _ (fin _ _ hc ii) e c' rfl⟩
def LcK (Z : Zx) (g : TG) (tt : TT) (te : TE) (dw : Ds) (cs1 : CS) (n : Nat) (item : Nat → Ty → Prop) (x : Ty) (st : CS → Prop) (K : Ty → CS → Prop) : Prop :=
  ∃ I : Addr → Nat → List Ty → CS → Prop, ∀ D, cs1 D = none → I D 0 [] (cs1.set D (.lst [])) ∧ (∀ i acc cs', I D i acc cs' → st cs') ∧ LTurns Z g tt te dw D n item (I D) ∧ (∀ acc cs', cs' D = some (.lst acc) → I D n acc cs' → K (dR D) cs')
theorem w_lcL (go1 : GOnly g vs) (h : W Z tl ds cs fun x cs1 => ∃ ts, IsS cs1 x ts ∧ LcK Z g tt te (wipeD ds vs) cs1 ts.length (fun i t => ts[i]? = some t) x (fun cs' => IsS cs' x ts) K) :
    W Z (tLc (iSeq Kf tl) g tt te vs) ds cs K := fun σ H F sl c z Q q =>
  h σ H F sl c z _ fun x cs1 v H1 F1 k e c1 r => by
    obtain ⟨ts, hq, I, hI⟩ := k
    obtain ⟨a, ws, rfl, hs, kt⟩ := hq.get Kf r c1
    refine ⟨a, rfl, .inl ⟨ws, hs, fun D hD => ?_⟩⟩
    obtain ⟨i0, ist, iturn, iend⟩ := hI D (c1.freeC hD)
    have here : ∀ {i acc cs' F' H'}, I D i acc cs' → Same F1 F' → Cs H' F' cs' → ∃ ws, SqL Kf H' a ws ∧ Tys F' ws ts := fun {i acc cs' F' H'} ii e' c' => by
      obtain ⟨b, us, eb, hw, kw⟩ := (ist i acc cs' ii).get Kf (x.up e' r) c'
      cases eb
      exact ⟨us, hw, kw⟩
    refine lc_coreS (n := ts.length) (item := fun i t => ts[i]? = some t) go1 (sl.up e) (z.up e) (q.up e) I D c1 hD i0 (fun acc cs' F' H' ii e' c' => ?_) (fun i acc cs' F' H' hi ii e' c' => ?_) iturn iend
    · obtain ⟨us, hw, kw⟩ := here ii e' c'
      exact ⟨us, hw, by rw [kw.length]; exact Nat.le_refl _⟩
    · obtain ⟨us, hw, kw⟩ := here ii e' c'
      have hi' : i < us.length := by rw [kw.length]; exact hi
      refine ⟨⟨us, us[i], hw, by simp [hi']⟩, fun x' H2 y => ?_⟩
      obtain ⟨rfl, y⟩ := y
      obtain ⟨t, ht, rt⟩ := kw.getV (y us hw)
      exact ⟨t, F', ht, rt, Same.refl _, c'⟩
theorem w_lcT (go1 : GOnly g vs) (h : W Z tl ds cs fun x cs1 => ∃ ts, x = dT ts ∧ LcK Z g tt te (wipeD ds vs) cs1 ts.length (fun i t => ts[i]? = some t) x (fun _ => True) K) :
    W Z (tLc (iSeq Kf tl) g tt te vs) ds cs K := fun σ H F sl c z Q q =>
  h σ H F sl c z _ fun x cs1 v H1 F1 k e c1 r => by
    obtain ⟨ts, rfl, I, hI⟩ := k
    obtain ⟨a, ws, rfl, hs, kt⟩ := r
    refine ⟨a, rfl, .inr ⟨ws, .of (c1.sub _ _ hs), fun D hD => ?_⟩⟩
    obtain ⟨i0, ist, iturn, iend⟩ := hI D (c1.freeC hD)
    have here : ∀ {F' H' cs'}, Same F1 F' → Cs H' F' cs' → SqT Kf H' a ws ∧ Tys F' ws ts := fun {F' H' cs'} e' c' => ⟨.of (c'.sub _ _ (e' _ _ hs)), kt.up e'⟩
    refine lc_coreS (n := ts.length) (item := fun i t => ts[i]? = some t) go1 (sl.up e) (z.up e) (q.up e) I D c1 hD i0 (fun acc cs' F' H' ii e' c' => ?_) (fun i acc cs' F' H' hi ii e' c' => ?_) iturn iend
    · obtain ⟨hw, kw⟩ := here e' c'
      exact ⟨ws, hw, by rw [kw.length]; exact Nat.le_refl _⟩
    · obtain ⟨hw, kw⟩ := here e' c'
      have hi' : i < ws.length := by rw [kw.length]; exact hi
      refine ⟨⟨ws, ws[i], hw, by simp [hi']⟩, fun x' H2 y => ?_⟩
      obtain ⟨rfl, y⟩ := y
      obtain ⟨t, ht, rt⟩ := kw.getV (y ws hw)
      exact ⟨t, F', ht, rt, Same.refl _, c'⟩
theorem w_lcR1 (go1 : GOnly g vs) (h : WA Z ta ds cs fun xs cs1 => ∃ n : Int, xs = [dI n] ∧ -(2 ^ 62) ≤ n ∧ n < 2 ^ 62 ∧ LcK Z g tt te (wipeD ds vs) cs1 n.toNat (fun i t => t = dI (0 + (i : Int))) dN (fun _ => True) K) :
    W Z (tLc (iRng1 ta) g tt te vs) ds cs K := fun σ H F sl c z Q q =>
  h σ H F sl c z _ fun xs cs1 us H1 F1 k e c1 r => by
    obtain ⟨n, rfl, b1, b2, I, hI⟩ := k
    cases r with
    | cons r r' =>
      cases r'
      obtain rfl : _ = V.int n := r
      refine ⟨n, rfl, b1, b2, fun D hD => ?_⟩
      obtain ⟨i0, ist, iturn, iend⟩ := hI D (c1.freeC hD)
      refine lc_coreS (n := n.toNat) (item := fun i t => t = dI (0 + (i : Int))) go1 (sl.up e) (z.up e) (q.up e) I D c1 hD i0 (fun acc cs' F' H' ii e' c' => Nat.le_refl _) (fun i acc cs' F' H' hi ii e' c' => ⟨hi, fun x' H2 y => ?_⟩) iturn iend
      obtain ⟨rfl, rfl⟩ := y
      exact ⟨_, F', rfl, rfl, Same.refl _, c'⟩
theorem w_lcR2 (go1 : GOnly g vs) (h : WA Z ta ds cs fun xs cs1 => ∃ m n : Int, xs = [dI m, dI n] ∧ (-(2 ^ 62) ≤ m ∧ m < 2 ^ 62 ∧ -(2 ^ 62) ≤ n ∧ n < 2 ^ 62) ∧ LcK Z g tt te (wipeD ds vs) cs1 (n - m).toNat (fun i t => t = dI (m + (i : Int))) dN (fun _ => True) K) :
    W Z (tLc (iRng2 ta) g tt te vs) ds cs K := fun σ H F sl c z Q q =>
  h σ H F sl c z _ fun xs cs1 us H1 F1 k e c1 r => by
    obtain ⟨m, n, rfl, b, I, hI⟩ := k
    cases r with
    | cons r r' =>
      cases r' with
      | cons r2 r' =>
        cases r'
        obtain rfl : _ = V.int m := r
        obtain rfl : _ = V.int n := r2
        refine ⟨m, n, rfl, b, fun D hD => ?_⟩
        obtain ⟨i0, ist, iturn, iend⟩ := hI D (c1.freeC hD)
        refine lc_coreS (n := (n - m).toNat) (item := fun i t => t = dI (m + (i : Int))) go1 (sl.up e) (z.up e) (q.up e) I D c1 hD i0 (fun acc cs' F' H' ii e' c' => Nat.le_refl _) (fun i acc cs' F' H' hi ii e' c' => ⟨hi, fun x' H2 y => ?_⟩) iturn iend
        obtain ⟨rfl, rfl⟩ := y
        exact ⟨_, F', rfl, rfl, Same.refl _, c'⟩
/-- no test -/
theorem wt_yes {Kb : Bool → CS → Prop} (k : Kb true cs) : WT Z tYes ds cs Kb := fun σ H F sl c z Q q => q true cs H F k (Same.refl F) c
/-- a comprehension whose turns change nothing: el of the items, in order -/
theorem lck_pure {cs1 : CS} {dw : Ds} {ts : List Ty} {x : Ty} {st : CS → Prop} (el : Ty → Option Ty) (hx : ∀ D acc, cs1 D = none → st (cs1.set D (.lst acc))) (hl : ts.length < sizeLine)
    (turn : ∀ (D : Addr) (acc : List Ty) (i : Nat) (t : Ty), cs1 D = none → ts[i]? = some t → WG Z g t dw (cs1.set D (.lst acc)) fun ds2 cs2 => WT Z tt ds2 cs2 fun b cs3 => if b = true then W Z te ds2 cs3 fun y cs4 => cs4 = cs1.set D (.lst acc) ∧ el t = some y else cs3 = cs1.set D (.lst acc) ∧ el t = none)
    (k : ∀ D, cs1 D = none → K (dR D) (cs1.set D (.lst (ts.filterMap el)))) : LcK Z g tt te dw cs1 ts.length (fun i t => ts[i]? = some t) x st K := by
  refine ⟨fun D i acc cs' => cs' = cs1.set D (.lst acc) ∧ acc = (ts.take i).filterMap el, fun D hD => ⟨⟨rfl, by simp⟩, fun i acc cs' h => by rw [h.1]; exact hx D acc hD, fun i t acc cs' hi ht _ h => ?_, fun acc cs' _ h => ?_⟩⟩
  · obtain ⟨rfl, ha⟩ := h
    have e1 : (ts.take (i + 1)).filterMap el = acc ++ (el t).toList := by
      rw [List.take_succ, List.filterMap_append, ← ha, ht]
      cases h : el t <;> simp [h]
    have hlen : acc.length < sizeLine := by
      rw [ha]
      refine Nat.lt_of_le_of_lt (List.length_filterMap_le _ _) (Nat.lt_of_le_of_lt ?_ hl)
      rw [List.length_take]; omega
    intro v σ H F r sl c z Q q
    refine turn D acc i t hD ht v σ H F r sl c z Q fun ds2 cs2 σ2 H2 F2 k2 e2 s2 c2 => q ds2 cs2 σ2 H2 F2 ?_ e2 s2 c2
    intro σ3 H3 F3 s3 c3 z3 Q3 q3
    refine k2 σ3 H3 F3 s3 c3 z3 Q3 fun b cs4 H4 F4 k4 e4 c4 => q3 b cs4 H4 F4 ?_ e4 c4
    cases b with
    | true =>
      rw [if_pos rfl] at k4 ⊢
      refine w_mono k4 fun y cs5 ⟨h1, h2⟩ => ?_
      subst h1
      exact ⟨CS.same, hlen, CS.set_set, by rw [e1, h2]; rfl⟩
    | false =>
      rw [if_neg Bool.false_ne_true] at k4 ⊢
      obtain ⟨h1, h2⟩ := k4
      subst h1
      exact ⟨CS.same, rfl, by rw [e1, h2]; simp⟩
  · obtain ⟨rfl, ha⟩ := h
    rw [List.take_length] at ha
    rw [ha]
    exact k D hD
theorem lck_rng {cs1 : CS} {dw : Ds} {n : Nat} {lo : Int} {x : Ty} (el : Int → Option Ty) (hl : n < sizeLine)
    (turn : ∀ (D : Addr) (acc : List Ty) (i : Nat), cs1 D = none → i < n → WG Z g (dI (lo + (i : Int))) dw (cs1.set D (.lst acc)) fun ds2 cs2 => WT Z tt ds2 cs2 fun b cs3 => if b = true then W Z te ds2 cs3 fun y cs4 => cs4 = cs1.set D (.lst acc) ∧ el (lo + (i : Int)) = some y else cs3 = cs1.set D (.lst acc) ∧ el (lo + (i : Int)) = none)
    (k : ∀ D, cs1 D = none → K (dR D) (cs1.set D (.lst ((List.range n).filterMap fun (i : Nat) => el (lo + (i : Int)))))) : LcK Z g tt te dw cs1 n (fun i t => t = dI (lo + (i : Int))) x (fun _ => True) K := by
  refine ⟨fun D i acc cs' => cs' = cs1.set D (.lst acc) ∧ acc = (List.range i).filterMap fun (i : Nat) => el (lo + (i : Int)), fun D hD => ⟨⟨rfl, by simp⟩, fun _ _ _ _ => trivial, fun i t acc cs' hi ht _ h => ?_, fun acc cs' _ h => ?_⟩⟩
  · obtain ⟨rfl, ha⟩ := h
    subst ht
    have e1 : ((List.range (i + 1)).filterMap fun (i : Nat) => el (lo + (i : Int))) = acc ++ (el (lo + (i : Int))).toList := by
      rw [List.range_succ, List.filterMap_append, ← ha]
      cases h : el (lo + (i : Int)) <;> simp [h]
    have hlen : acc.length < sizeLine := by
      rw [ha]
      refine Nat.lt_of_le_of_lt (List.length_filterMap_le _ _) ?_
      rw [List.length_range]; omega
    intro v σ H F r sl c z Q q
    refine turn D acc i hD hi v σ H F r sl c z Q fun ds2 cs2 σ2 H2 F2 k2 e2 s2 c2 => q ds2 cs2 σ2 H2 F2 ?_ e2 s2 c2
    intro σ3 H3 F3 s3 c3 z3 Q3 q3
    refine k2 σ3 H3 F3 s3 c3 z3 Q3 fun b cs4 H4 F4 k4 e4 c4 => q3 b cs4 H4 F4 ?_ e4 c4
    cases b with
    | true =>
      rw [if_pos rfl] at k4 ⊢
      refine w_mono k4 fun y cs5 ⟨h1, h2⟩ => ?_
      subst h1
      exact ⟨CS.same, hlen, CS.set_set, by rw [e1, h2]; rfl⟩
    | false =>
      rw [if_neg Bool.false_ne_true] at k4 ⊢
      obtain ⟨h1, h2⟩ := k4
      subst h1
      exact ⟨CS.same, rfl, by rw [e1, h2]; simp⟩
  · obtain ⟨rfl, ha⟩ := h
    rw [ha]
    exact k D hD
end

/-! ### isinstance -/
class IsiC (Kf : PySem.W.Frag) (C : Addr) : Prop where
  ha : PySem.W.findIn Kf (.ref C) "__class__" = some (some (.builtin "object.__class__"))
  hn : PySem.W.specialIn Kf (.builtin "object.__class__") "__get__" = some (some (.builtin "getset_descriptor.__get__"))
  htk : PySem.W.takesIn Kf (.builtin "object.__class__") = some true
  hm : PySem.W.mroIn Kf C (.type "object") = some true
inductive TyD (Kf : PySem.W.Frag) (cs : CS) : Ty → Value → Prop
  | non : TyD Kf cs dN (.type "NoneType")
  | bl (b : Bool) : TyD Kf cs (dB b) (.type "bool")
  | int (i : Int) : TyD Kf cs (dI i) (.type "int")
  | str (z : Str) : TyD Kf cs (dS z) (.type "str")
  | lst {x : Ty} {ts : List Ty} : IsL cs x ts → TyD Kf cs x (.type "list")
  | tup (ts : List Ty) : TyD Kf cs (dT ts) (.type "tuple")
  | ins {x : Ty} {C : Addr} {fs : List (Str × Ty)} : IsO cs x C fs → ClsI Kf C → IsiC Kf C → TyD Kf cs x (.ref C)
theorem TyD.get {Kf : PySem.W.Frag} {cs : CS} {x : Ty} {w : Value} {v : V} {H F : Hp} (h : TyD Kf cs x w) (r : x.p v F) (c : Cs H F cs) : TyX Kf H v w := by
  cases h with
  | non => obtain rfl : v = .non := r; exact .base .non
  | bl b => obtain rfl : v = .bl b := r; exact .base (.bl b)
  | int i => obtain rfl : v = .int i := r; exact .base (.int i)
  | str z => obtain rfl : v = .str z := r; exact .base (.str z)
  | lst q => obtain ⟨a, ws, rfl, ha, _⟩ := q.get r c; exact .base (.lst ha)
  | tup ts => obtain ⟨a, ws, rfl, ha, _⟩ := r; exact .base (.tup (c.sub _ _ ha))
  | ins q k1 k2 => obtain ⟨a, dx, fvs, rfl, ha, _⟩ := q.get r c; exact .base (.ins ha k1.h k2.ha k2.hn k2.htk k2.hm)
theorem call_isiA {X : Cx} : CallR X (.builtin "isinstance") (rIsi X.K) := call_isi
section
variable {cs : CS} {Kf : PySem.W.Frag} {K : Ty → CS → Prop} {x : Ty} {w : Value} {b : Bool}
theorem rl_isY {n : String} (hx : TyD Kf cs x w) (hk : PySem.W.kitOne Kf w (.type n) = some b) (k : K (dB b) cs) : RLW (rIsi Kf) [x, dY n] cs K := fun vs H F rs c Q q => by
  cases rs with
  | cons r r' =>
    cases r' with
    | cons r2 r' =>
      cases r'
      obtain rfl : _ = V.ty n := r2
      exact ⟨_, _, w, .type n, b, rfl, .ty n, hx.get r c, hk, q _ _ _ _ _ k (Same.refl F) c rfl⟩
theorem rl_isC {C : Addr} (hx : TyD Kf cs x w) (hk : PySem.W.kitOne Kf w (.ref C) = some b) (k : K (dB b) cs) : RLW (rIsi Kf) [x, dR C] cs K := fun vs H F rs c Q q => by
  cases rs with
  | cons r r' =>
    cases r' with
    | cons r2 r' =>
      cases r'
      obtain rfl : _ = V.ref C := r2
      exact ⟨_, _, w, .ref C, b, rfl, .own C, hx.get r c, hk, q _ _ _ _ _ k (Same.refl F) c rfl⟩
theorem kit_self {Kf : PySem.W.Frag} {C : Addr} : PySem.W.kitOne Kf (.ref C) (.ref C) = some true := by
  unfold PySem.W.kitOne
  rw [if_pos (by simp)]
end
end S

set_option Elab.async false
set_option linter.all false
set_option maxRecDepth 100000
set_option maxHeartbeats 2000000
set_option autoImplicit false
/-! The S layer, 5: item stores, op=, class constants, properties; how a def is told. -/
namespace S
open PySem PySem.Spec PyProof.Rows L2
section
variable {Z : Zx} {ds : Ds} {cs : CS} {Kf : PySem.W.Frag} {K : Ds → CS → Prop} {to ti te ta : TE} {E : DE} {Kt : Ty → CS → Prop}
theorem wg_subL {t : Ty} (h : W Z to ds cs fun o cs1 => W Z ti ds cs1 fun i cs2 => ∃ a ts k j, o = dR a ∧ i = dI k ∧ cs2 a = some (.lst ts) ∧ ixN ts.length k = some j ∧ K ds (cs2.set a (.lst (ts.set j t)))) : WG Z (gSub to ti rSetL) t ds cs K := fun v σ H F r sl c z Q q =>
  h σ H F sl c z _ fun o cs1 v1 H1 F1 k1 e1 c1 r1 => k1 σ H1 F1 (sl.up e1) c1 (z.up e1) _ fun i cs2 v2 H2 F2 k2 e2 c2 r2 => by
    obtain ⟨a, ts, k, j, rfl, rfl, hc, hj, kk⟩ := k2
    obtain rfl : v1 = .ref a := r1
    obtain rfl : v2 = .int k := r2
    obtain ⟨vs, ha, kv⟩ := c2.lst hc
    exact ⟨a, vs, k, j, rfl, rfl, ha, by rw [kv.length]; exact hj, q _ _ _ _ F2 kk (e1.trans e2) (sl.up (e1.trans e2)) (c2.put hc ⟨_, upd_same, kv.set (t.up (e1.trans e2) r) j⟩)⟩
theorem ws_augI {i : Nat} {a : Int} {f : Int → Int → Int} (hi : ds[i]? = some (some (dI a))) (h : W Z te ds cs fun y cs1 => ∃ b, y = dI b ∧ E.nx (ds.set i (some (dI (f a b)))) cs1) : WS Z (tAug i te (ipI f)) E ds cs := fun σ H F D sl c z q => by
  obtain ⟨v, hv, rv⟩ := sl.at_ i _ hi
  obtain rfl : v = .int a := rv
  refine ⟨_, hv, h σ H F sl c z _ fun y cs1 v1 H1 F1 k e c1 r => ?_⟩
  obtain ⟨b, rfl, k⟩ := k
  obtain rfl : v1 = .int b := r
  exact ⟨a, b, rfl, rfl, q.nx _ _ _ _ F1 k e ((sl.up e).set (t := dI (f a b)) rfl) c1⟩
/-- a constant read off the class -/
theorem w_cval {f : Str} (h : W Z ta ds cs fun x cs1 => ∃ C mc v u t, x = dR C ∧ ClX.CRead Kf C mc ∧ ClX.CVal Kf C mc f v u ∧ (∀ F, Ty.p t v F) ∧ Kt t cs1) : W Z (ClX.tCVal Kf ta f) ds cs Kt := fun σ H F sl c z Q q =>
  h σ H F sl c z _ fun x cs1 v H1 F1 k e c1 r => by
    obtain ⟨C, mc, cv, u, t, rfl, h1, h2, hp, k⟩ := k
    exact ⟨C, mc, cv, u, r, h1, h2, q _ _ _ _ _ k e c1 (hp _)⟩
end
end S

set_option Elab.async false
set_option linter.all false
set_option maxRecDepth 100000
set_option maxHeartbeats 2000000
set_option autoImplicit false
/-! Further rules at the machine's side: a call at any depth below, str of an own object, C() without __init__, errors whose __init__ begins with super().__init__(text). -/
namespace S
open PySem PySem.Spec PyProof.Rows L2

section
variable {X : Cx} {CX : CXT} {k : Nat} {f C : Addr} {fd : FuncData} {ps : List Str} {sp : Sp} {E : XK} {A : Around} {pins : List (Addr × Obj)} {σ : L2.St} {H : Hp} {s : Shared} {Q : VK} {us : List Value} {vs : List V}
theorem run_at (F : FnOk X.prog X.w X.K X.mg X.base CX k f fd ps sp) (hr : Room k A) (fr : A.frames = X.A.frames) (hb : Binds X.K fd ps []) (hx : Passes CX X E) (I : Inv X pins σ H s) (r : Vals vs us) (h : sp vs H Q E) :
    wpAny (model X.prog X.w) A (call (.ref f) us) (EP X pins σ Q) X.xe s := by
  have e := I.env0
  have e0 : Env0 X.prog X.w X.K X.mg X.base A X.stack s H := ⟨fr.trans e.frames, e.mod, e.bs, e.bsz, e.funs, e.frf, e.hok, e.bare⟩
  have hl : (us ++ []).length = ps.length := by rw [List.append_nil, ← r.length]; exact F.len _ _ _ _ h
  have b := hb s us I.kIn hl
  rw [List.append_nil] at b
  refine wpAny_call (codeAny_mono (F.run A X.stack s H ⟨us, []⟩ us vs Q E hr e0 b r h) fun r s' hq => ?_)
  cases r with
  | error er => exact hx pins σ H s er s' I hq
  | ok fl => cases fl <;> first | exact I.after hq | exact False.elim hq
theorem inst_at {a dx : Addr} {fs : List (Str × V)} (I : Inv X pins σ H s) (ha : H a = some (.ins C dx fs)) : ∃ od, PySem.W.InstAt s.heap a (PySem.W.instObj C dx) C (some od) := by
  obtain ⟨d, z, ne, e, mA, n1, r⟩ : ObjOk X.prog X.w H s.heap a (.ins C dx fs) := I.hok a _ ha
  obtain ⟨od, J, _⟩ := (ObjM.mk e n1 ne : ObjM s.heap a dx C mA).look
  exact ⟨od, J⟩
/-- str(x), x of an own class with __str__ -/
def rStrO (C : Addr) (sp : Sp) : List V → Hp → VK → Prop := fun xs H Q => ∃ a dx fs, xs = [.ref a] ∧ H a = some (.ins C dx fs) ∧ sp [.ref a] H (fun v H' => ∃ z, v = .str z ∧ Q (.str z) H') E0
theorem call_strO (hs : PySem.W.findIn X.K (.ref C) "__str__" = some (some (.ref f))) (hf : PySem.W.isFn X.K (.ref f) = true) (F : FnOk X.prog X.w X.K X.mg X.base CX k f fd ps sp) (hr : Room (k + 2) X.A) (hb : Binds X.K fd ps []) (hx : Passes CX X E0) :
    CallR X (.type "str") (rStrO C sp) := by
  intro pins s σ H xs us Q I r h
  obtain ⟨a, dx, fs, rfl, ha, h⟩ := h
  cases r with
  | cons r r' =>
    cases r'
    cases r
    obtain ⟨od, J⟩ := inst_at I ha
    have h2 := hr.in1.in1.units0
    refine PySem.W.kso_call h2 I.kIn J hs hf (thn (run_at F hr.in1.in1 rfl hb hx I (.cons (show RelV (V.ref a) (Value.ref a) from rfl) .nil) h) fun u s1 ⟨v, H1, I1, rv, z, ev, q⟩ => ?_)
    subst ev
    obtain ⟨t, rfl⟩ := rv
    exact ⟨.str z, H1, I1, ⟨t, rfl⟩, q⟩
/-- C(), C without an __init__ of its own -/
structure Mk0 (K : PySem.W.Frag) (C : Addr) : Prop where
  makes : PySem.W.makesIn K C = true
  init : PySem.W.findIn K (.ref C) "__init__" = some (some (.builtin "object.__init__"))
  kp : PySem.W.keepIn K (.ref C) = true
def tMk0 (C : Addr) : TE := fun _ H Q => ∀ x dx, H x = none → H dx = none → dx ≠ x → Q (.ref x) (upd (upd H dx (.own x)) x (.ins C dx []))
theorem pe_mk0 {x : Str} {p pos : Pos} (M : Mk0 X.K C) (hm : X.mg x = some (.ref C)) (hg : Gl X x := by rfl) (hdb : (x == ("__debug__" : Str)) = false := by decide) : PE X (.Call (.Name x p) [] [] pos) (tMk0 C) := by
  refine ⟨fun pins s σ H Q I h => ?_⟩
  refine wpAny_Call_Name_kw (ld_glob I hg hm (PySem.W.callWith_K0 I.kIn M.kp ?_) hdb)
  have q := h (s.heap.objs.size + 1) s.heap.objs.size (I.hok.fresh (Nat.le_succ _)) (I.hok.fresh (Nat.le_refl _)) (Nat.ne_of_lt (Nat.lt_succ_self _))
  have I2 := Inv.made (C := C) I
  refine wpAny_call (make_map0 I.kIn M.makes M.init (fun self => .of_pure (PySem.W.oi_bind self)) ?_)
  obtain ⟨hp, g, d, t, os⟩ := s
  have Y := PySem.W.makes_of (M := model X.prog X.w) I.kIn M.makes
  have gx : ((hp.push PySem.W.emptyDict).push (PySem.W.instObj C hp.objs.size)).get? (hp.objs.size + 1) = some (PySem.W.instObj C hp.objs.size) := by heap_get
  have t1 : PySem.W.Looks (model X.prog X.w) ((hp.push PySem.W.emptyDict).push (PySem.W.instObj C hp.objs.size)) (typeOf (.ref (hp.objs.size + 1))) (.ref C) := (PySem.W.Looks.ld gx).andThen .now
  have t2 : PySem.W.Looks (model X.prog X.w) ((hp.push PySem.W.emptyDict).push (PySem.W.instObj C hp.objs.size)) (isInstance (.ref (hp.objs.size + 1)) (.type "object")) true :=
    PySem.W.Looks.andThen (f := fun c => isSubtype c (.type "object")) t1 (Y.top.keeps fun b o e => Heap.get?_push_of_some _ (Heap.get?_push_of_some _ e))
  refine codeAny_call_builtin PySem.W.oi_plain PySem.W.entry_oi (@PySem.W.check_slot (model X.prog X.w) _ _ _ "object.__init__" "object" "__init__" (.ref (hp.objs.size + 1)) [] [] _ PySem.W.oi_kind PySem.W.oi_split t2 (PySem.W.oi_args _) ?_)
  rw [PySem.W.oi_run]
  exact wpAny_pure ⟨rfl, .ref (hp.objs.size + 1), _, I2, rfl, q⟩
end
section
variable {Z : Zx} {ds : Ds} {cs : CS} {K : Ty → CS → Prop} {Kf : PySem.W.Frag} {x : Ty} {C : Addr} {g : Sg}
theorem rl_strO {fs : List (Str × Ty)} (hx : IsO cs x C fs) (h : g [x] cs (fun t cs' => ∃ z, t = dS z ∧ K (dS z) cs') fun _ _ => False) : RLW (rStrO C (toSp g)) [x] cs K := fun vs H F rs c Q q => by
  cases rs with
  | cons r r' =>
    cases r'
    obtain ⟨a, dx, fvs, rfl, ha, kf⟩ := hx.get r c
    refine ⟨a, dx, fvs, rfl, ha, F, [x], cs, _, _, .one r, c, h, fun t cs' v H' F' kk e c' rv => ?_, fun _ _ _ _ _ _ kk _ _ _ => kk.elim⟩
    obtain ⟨z, rfl, kk⟩ := kk
    exact ⟨z, rv, q _ _ _ _ _ kk e c' rfl⟩
theorem w_mk0 (h : ∀ x, cs x = none → K (dR x) (cs.set x (.ins C []))) : W Z (tMk0 C) ds cs K := fun σ H F sl c z Q q x dx nx ndx ne => q _ _ _ _ _ (h x (c.freeC nx)) (Same.refl F) (made_cs c nx ndx ne) rfl
/-- list(range(..)) -/
theorem w_listR1 {te : TE} (h : W Z te ds cs fun x cs1 => ∃ n : Nat, x = dI (n : Int) ∧ n ≤ 16777216 ∧ ∀ a, cs1 a = none → K (dR a) (cs1.set a (.lst (rngT 0 n)))) : W Z (tLstRg (tRg1 te)) ds cs K := fun σ H F sl c z Q q =>
  h σ H F sl c z _ fun x cs1 v H1 F1 k e c1 r => by
    obtain ⟨n, rfl, hn, k⟩ := k
    refine ⟨n, r, ⟨by omega, by omega, by omega, by omega, by omega⟩, fun p hp => q _ _ _ _ F1 (k p (c1.freeC hp)) e (c1.new hp ⟨_, upd_same, ?_⟩) rfl⟩
    have e1 : rngT 0 n = (((List.range n).map fun (i : Nat) => (0 + (i : Int)))).map dI := by unfold rngT; rw [List.map_map]; rfl
    have e2 : rgV 0 (n : Int) = (((List.range n).map fun (i : Nat) => (0 + (i : Int)))).map V.int := by
      unfold rgV
      rw [List.map_map, show ((n : Int) - 0).toNat = n by omega]
      rfl
    rw [e1, e2]
    exact Tys.ofInts _
end
end S

set_option Elab.async false
set_option linter.all false
set_option maxRecDepth 100000
set_option maxHeartbeats 2000000
set_option autoImplicit false
/-! Own errors over ValueError whose __init__ begins with super().__init__(text). -/
namespace S
open PySem PySem.Spec PyProof.Rows L2 NdefX

/-- the method-wrapper of ValueError.__init__, called -/
theorem call_mw {prog : Program} {w : World} {A : Around} {Er : Value → Shared → Prop} {h : Heap} {g : Array GenState} {d : Drawn} {t : Nat} {os : OsState} {nm q : Str} {C Nn : Addr} {bs bm : List Value} {hd : Bool} {sn : List Str} {sub : List Value} {ab : Bool} {col : Option Bool} {dd : Option Addr} {k0 k1 k2 k3 k5 : Option Value}
    {u x t0 : Addr} {ws : List Value} {Q : Value → Shared → Prop} (hC : h.get? C = some (excClassObj nm q C Nn bs bm hd sn sub ab col dd k0 k1 k2 k3 k5 "ValueError.__new__")) (hx : h.get? x = some (HandSPX.excO C t0)) (hu : h.get? u = some (PySem.W.kxs_mw "ValueError.__init__" x)) (hz : ws.length ≤ sizeLine)
    (k : ∀ h' t1, (∀ b o, b ≠ x → h.get? b = some o → h'.get? b = some o) → h'.get? x = some (HandSPX.excO C t1) → Q .none ⟨h', g, d, t, os⟩) : wpAny (model prog w) A (call (.ref u) ws) Q Er ⟨h, g, d, t, os⟩ := by
  refine wpAny_call (codeAny_of_tree (show wpAny (model prog w) A.in1 (callAny (.ref u) ⟨ws, []⟩) _ _ _ from ?_))
  simp only [callAny]; refine wpAny_bind (wpAny_load hu ?_)
  have e1 : (Value.type "method-wrapper" == Value.type "method" || Value.type "method-wrapper" == Value.type "builtin_function_or_method" || Value.type "method-wrapper" == Value.type "method-wrapper") = true := by decide
  simp only [PySem.W.kxs_mw, e1, if_true]
  refine W.KFB.if_so (by decide) (wpAny_bind (ESX.check_bound F.excBase_ValueError hC hx rfl (wpAny_bind (wpAny_pure (wpAny_pure ?_)))))
  refine ⟨Code.quiet_builtin _ (by decide +kernel), codeAny_builtin F.excBase_ValueError.initEntry ?_⟩
  rw [Around.under_plainId F.excBase_ValueError.init.plain _]; wp_walk
  refine k _ h.objs.size (fun b o nb hb => ?_) ?_
  · rw [Heap.get?_update_other _ _ (Ne.symm nb)]; exact Heap.get?_push_of_some _ hb
  · rw [Heap.get?_update_self _ (Heap.get?_push_of_some _ hx) rfl]; rfl

/-- what the written part says of an error class C and its __init__ at f -/
structure SupF (P : Program) (K : PySem.W.Frag) (C f : Addr) (name qual : Str) (params : Arguments) (body : List Stmt) (scope : Scope) (fd : FuncData) : Prop where
  exc : OexC K C
  look : ∃ oc od an osl kV doc pm ct cda cc D cdD ccl cdd vs ccs file tf cl cld csl, K.lookup f = some ⟨oc, od, .func fd, osl⟩ ∧ fd = PySem.W.ksFn name qual params body scope .none kV doc pm an (.ref cda) ct cc ∧ PySem.W.codeIn K (.ref cda) qual = true ∧
    K.lookup cc = some ⟨cl, cld, .cell (some (.ref D)), csl⟩ ∧ PySem.W.clsIn K D = some cdD ∧ PySem.W.mroIn K C (.ref D) = some true ∧ PySem.W.ks_superIn K C D "__init__" = some (some (.builtin "ValueError.__init__")) ∧
    K.lookup cda = some ⟨ccl, cdd, .fields vs, ccs⟩ ∧ vs[2]? = some (.str file tf) ∧ ((P.main.file : Str) == file) = true
  nosup : PySem.W.nsIn K mainGlobals "super" = some none
  st : PySem.W.nsIn K cStatics "thirdparty.any" = some none
  ve : PySem.W.subIn K (.ref C) (.type "ValueError") = some true
  init : PySem.W.findIn K (.ref C) "__init__" = some (some (.ref f))
  fn : PySem.W.typeIn K (.ref f) = some (.type "function")

theorem SupF.binds {P : Program} {K : PySem.W.Frag} {C f : Addr} {name qual : Str} {params : Arguments} {body : List Stmt} {scope : Scope} {fd : FuncData} {ps : List Str} (F : SupF P K C f name qual params body scope fd)
    (h : ∀ (kV doc pm : Value) (an : Option Addr) (cdv ct : Value) (cc : Addr) (us : List Value), us.length = ps.length → bindArgs (PySem.W.ksFn name qual params body scope .none kV doc pm an cdv ct cc) ⟨us, []⟩ = pure (ps.zip us)) : Binds K fd ps [] := by
  obtain ⟨oc, od, an, osl, kV, doc, pm, ct, cda, cc, D, cdD, ccl, cdd, cvs, ccs, file, tf, cl, cld, csl, lk, rfl, _⟩ := F.look
  exact .all (h kV doc pm an _ ct cc)
/-- the statement super().__init__(e), then the rest -/
theorem fn_sup {CX : CXT} {P : Program} {w : World} {K : PySem.W.Frag} {mg : Str → Option Value} {base : Heap} {k : Nat} {f C : Addr} {name qual : Str} {params : Arguments} {rest : List Stmt} {scope : Scope} {fd : FuncData} {N ps : List Str} {sp : Sp} {ar : Arg} {p0 p1 p2 p3 p4 p5 : Pos} {z : Str} {kd : Nat}
    (F : SupF P K C f name qual params (.Expr (.Call (.Attribute (.Call (.Name "super" p0) [] [] p1) "__init__" p2) [.Constant (.str z) kd p3] [] p4) p5 :: rest) scope fd) (S : NScope N ps ["__class__"] scope)
    (len : ∀ vs H Q E, sp vs H Q E → vs.length = ps.length) (hself : ∀ vs H Q E, sp vs H Q E → ∃ a ws, vs = .ref a :: ws ∧ H a = some (exo a C none))
    (hp : (params.posonlyargs ++ params.args).head? = some ar) (hps : ps[0]? = some ar.arg) (hks : scope.names.lookup ("super" : Str) = some .globalImplicit) (hsup : mg "super" = none) (htop : (P.main.scope.names.lookup ("super" : Str)).isSome = false)
    (hev : ∀ (L cda cc : Addr), ∃ pl : Sem Bool, eval (.Call (.Attribute (.Call (.Name "super" p0) [] [] p1) "__init__" p2) [.Constant (.str z) kd p3] [] p4) (PySem.W.ksEnv qual scope L f (.ref cda) cc) = (do
      let ov ← attributeBase (.Call (.Name "super" p0) [] [] p1) "__init__" (PySem.W.ksEnv qual scope L f (.ref cda) cc) (eval (.Call (.Name "super" p0) [] [] p1) (PySem.W.ksEnv qual scope L f (.ref cda) cc))
      standAt p2.atName
      let (fv, first) ← holding [ov] (getMethod ov "__init__" pl)
      callWith p4 fv first (backTo p4 (starEach [.Constant (.str z) kd p3] (PySem.W.ksEnv qual scope L f (.ref cda) cc))) []))
    (hbody : ∀ (cc cda : Addr) (A : Around) (outer : List Env) (s : Shared) (H : Hp) (vs : List V) (Q : VK) (E : XK), sp vs H Q E →
      ∃ t, PSs (ncx CX P w K mg base N ⟨name, qual, params, rest, scope, [("__class__", cc)], cda⟩ f A outer s H E) rest t ∧ t { nx := fun _ H' => Q .non H', rt := Q } (startF N vs [none]) H) :
    FnOk P w K mg base CX (k + 1) f fd ps sp := by
  obtain ⟨oc, od, an, osl, kV, doc, pm, ct, cda, cc, D, cdD, ccl, cdd, cvs, ccs, file, tf, cl, cld, csl, lk, rfl, hcd, lcc, hD, hsub, hsi, lcda, hvs, hfile⟩ := F.look
  refine ⟨len, fun A outer s H args us vs Q E hr e0 hb r hsp => ?_⟩
  have hl := len _ _ _ _ hsp
  have KX : K.In s.heap := e0.mod.kin.keeps fun b o e => (e0.bs b o e).1
  have lim : s.heap.NoLimit := e0.mod.nolimit.keeps fun b o e => (e0.bs b o e).1
  obtain ⟨t, ht, hq⟩ := hbody cc cda A outer s H vs Q E hsp
  obtain ⟨a, ws, rfl, ha⟩ := hself _ _ _ _ hsp
  generalize hX : ncx CX P w K mg base N ⟨name, qual, params, rest, scope, [("__class__", cc)], cda⟩ f A outer s H E = X at ht
  refine PySem.ks_codeAny_call_defAt hr.depth (KX _ _ lk) rfl lim (PySem.W.codeRec_of KX hcd) rfl hb S.nocell (fun y hy => S.par y.1 (List.of_mem_zip hy).1) (fun h₁ hns kp => ?_) S.co S.gen S.kind
  have C0 : CellsAt [("__class__", cc)] ["__class__"] [none] s.heap H := by
    have lc : ∀ y c, List.lookup y [(("__class__" : Str), cc)] = some c → c = cc := fun y c e => by
      simp only [List.lookup] at e
      split at e
      · cases e; rfl
      · cases e
    refine ⟨rfl, fun y c e => ?_, fun x y c e1 e2 => ?_, fun i y e => ?_⟩
    · rw [lc y c e]
      have q := e0.mod.kin _ _ lcc
      exact ⟨(e0.bs _ _ q).2, some (.ref D), _, (e0.bs _ _ q).1, rfl⟩
    · have g1 := PySem.mem_of_lookup e1
      have g2 := PySem.mem_of_lookup e2
      simp only [List.mem_singleton, Prod.mk.injEq] at g1 g2
      rw [g1.1, g2.1]
    · cases i with
      | zero =>
        cases e
        exact ⟨cc, rfl, fun v h => by cases h⟩
      | succ i => cases e
  subst hX
  have I : Inv (ncx CX P w K mg base N ⟨name, qual, params, rest, scope, [("__class__", cc)], cda⟩ f A outer s H E) [] (startF N (.ref a :: ws) [none]) H { s with heap := h₁, toks := s.toks + (ps.zip us).length } := inv_startN S hr.hd e0 hl r C0 hns kp
  generalize hX : ncx CX P w K mg base N ⟨name, qual, params, rest, scope, [("__class__", cc)], cda⟩ f A outer s H E = X at I ht
  have nxt : ∀ s', Inv X [] (startF N (.ref a :: ws) [none]) H s' → wpAny (model P w) X.A (execs rest X.env) (fun f s' => CR CX outer P w H s Q E (.ok (.ret (match f with | .ret v => v | _ => .none))) s') X.xe s' := fun s' J => by
    subst hX
    refine wpAny_mono (ht.run [] s' _ H _ J hq) (fun fl s'' hs => ?_) fun e s'' hs => hs
    have fin : ∀ {σ' : L2.St} {H' : Hp} {v : V} {u : Value}, Inv (ncx CX P w K mg base N ⟨name, qual, params, rest, scope, [("__class__", cc)], cda⟩ f A outer s H E) [] σ' H' s'' → RelV v u → Q v H' → CE outer P w H s Q u s'' :=
      fun {σ' H' v u} J rv q => ⟨v, H', J.os, J.bare, J.base, J.hok, rv, q⟩
    cases fl with
    | ret u =>
      obtain ⟨v, σ', H', J, rv, q⟩ := hs
      exact fin J rv q
    | next =>
      obtain ⟨σ', H', J, q⟩ := hs
      exact fin (v := V.non) (u := Value.none) J rfl q
    | brk =>
      obtain ⟨_, _, _, q⟩ := hs
      exact False.elim q
    | cont =>
      obtain ⟨_, _, _, q⟩ := hs
      exact False.elim q
  obtain ⟨mb, hb1, hb2⟩ := e0.mod.blt
  have K1 : K.In h₁ := KX.keeps kp
  have up : ∀ b o, base.get? b = some o → h₁.get? b = some o := fun b o e => kp _ _ (e0.bs b o e).1
  obtain ⟨nm, qn, Nn, bs, bm, sn, sub, ab, col, dd, k0, k1, k2, k3, k5, hC, hbm⟩ := F.exc.cls
  have hxC : a ≠ C := fun e => by
    have q := (e0.bs _ _ (e0.mod.kin _ _ hC)).2
    rw [← e, ha] at q
    cases q
  obtain ⟨oD, hD1, hD2⟩ : ∃ oD, K.lookup D = some oD ∧ oD.data = .cls cdD := by
    unfold PySem.W.clsIn at hD
    split at hD
    · rename_i ho
      cases hD
      exact ⟨_, ho, rfl⟩
    · cases hD
  have hv : (ps.zip us).reverse.lookup ar.arg = some (.ref a) := by
    cases r with
    | @cons v u vs us r r' =>
      obtain rfl : u = .ref a := r
      have nd : ps.Nodup := by
        have q := S.nd.sublist (List.take_sublist (ps.length + [("__class__" : Str)].length) N)
        rw [S.pre] at q
        exact (List.nodup_append.mp q).1
      exact zip_look nd hps rfl
  have hka : scope.names.lookup ar.arg = some .local := S.par _ (List.mem_of_getElem? hps)
  have hkc : scope.names.lookup ("__class__" : Str) = some .free := S.frk _ (List.mem_singleton.mpr rfl)
  have hok1 : HOk P w H h₁ := by
    have q := I.hok
    subst hX
    exact q
  obtain ⟨t1, he⟩ := exo_at hok1 ha
  have he : h₁.get? a = some (HandSPX.excO C t1) := he
  refine ks_wpAt_execs_cons ?_
  refine ks_wpAt_Expr_any ?_ (by have q := I.quiet; rw [← hX] at q; exact q) (by rfl)
  obtain ⟨pl, hev⟩ := hev s.heap.objs.size cda cc
  refine ks_wpAt_MethodCall (pl := pl) ?_ hev
  refine ks_wpAt_super_base hks hkc (by decide) rfl (K1 _ _ lk) rfl hp rfl (K1 _ _ lcda) rfl hvs hfile htop ?_
  refine PySem.W.ks_loadName_global S.kind hks (Calls.loadGlobal_builtin (e0.mod.glob.keeps up) hsup (hb1.keeps up) ((hb2 "super" (by decide)).trans (show bootBuiltins "super" = some (.type "super") by first | rfl | kernel_rfl)) ⟨rfl, ?_⟩)
  refine wpAny_loadName_free S.kind hkc rfl ⟨_, K1 _ _ lcc, rfl⟩ ?_
  refine wpAny_loadName_local S.kind hka hns hv ?_
  refine ks_wpAny_isType_cls (K1 _ _ hD1) hD2 ⟨rfl, ?_⟩
  refine ks_wpAny_call_super (K1 _ _ hD1) hD2 he rfl (fun c e => by cases e) (PySem.W.looks_mroIn K1 hsub) (fun h2 hso k2 => ?_)
  have K2 : K.In h2 := K1.keeps k2
  obtain ⟨cdC, hcC⟩ : ∃ cd, PySem.W.clsIn K C = some cd := by
    cases e : PySem.W.clsIn K C with
    | none =>
      unfold PySem.W.ks_superIn at hsi
      rw [e] at hsi
      cases hsi
    | some cd => exact ⟨cd, rfl⟩
  have hsi2 : PySem.W.alongIn K "__init__" ((cdC.mro.dropWhile (· != .ref D)).drop 1) = some (some (.builtin "ValueError.__init__")) := by
    unfold PySem.W.ks_superIn at hsi
    rw [hcC] at hsi
    exact hsi
  have he2 := k2 _ _ he
  have tx : PySem.W.Looks (model P w) h2 (typeOf (.ref a)) (.ref C) := (PySem.W.Looks.ld he2).andThen .now
  refine PySem.W.kxs_getMethod PySem.W.kxs_ValueError hso (PySem.W.looks_opaque K2 F.st) (l₀ := cdC.mro) (fun A Q E s k q => wpAny_bind ((PySem.W.looks_clsIn K2 hcC) A _ E s k (wpAny_pure q))) rfl K2 hsi2 (tx.andThen (PySem.W.looks_subIn K2 F.ve)) hxC (by decide) ?_
  refine PySem.W.kxs_callWith (i := "ValueError.__init__") (x := a) (by rfl) ?_
  refine Calls.evalArgs_plain ?_
  refine Calls.spliced_cons ?_
  refine Calls.Constant_str (x := z) (k := kd) (pos := p3) ?_
  refine Calls.spliced_nil ?_
  have k3 : ∀ (o : Obj) b ob, h₁.get? b = some ob → (h2.push o).get? b = some ob := fun o b ob e => Heap.get?_push_of_some _ (k2 _ _ e)
  have hu : (h2.push (PySem.W.kxs_mw "ValueError.__init__" a)).get? h2.objs.size = some (PySem.W.kxs_mw "ValueError.__init__" a) := Heap.get?_push_at rfl rfl
  refine ⟨hu, call_mw (k3 _ _ _ (K1 _ _ hC)) (k3 _ _ _ he) hu (show (1 : Nat) ≤ sizeLine by decide) fun h' t2 kk hx => ?_⟩
  have I2 := I.kept (h' := h2.push (PySem.W.kxs_mw "ValueError.__init__" a)) (t' := s.toks + (ps.zip us).length + 1 + 1) (k3 _)
  have J := I2.write (t' := s.toks + (ps.zip us).length + 1 + 1) (x := a) (e := a) (o := exo a C none) (by rw [ha]; exact True.intro) (.inl rfl) kk ⟨_, hx⟩ (exo_ok hx)
  have eu : upd H a (exo a C none) = H := by
    funext b
    by_cases hb : b = a
    · rw [hb, upd_same, ha]
    · rw [upd_ne hb]
  rw [eu] at J
  have q := nxt _ J
  subst hX
  exact wpAt_of_wpAny q
end S

set_option Elab.async false
set_option linter.all false
set_option maxRecDepth 100000
set_option maxHeartbeats 2000000
set_option autoImplicit false
/-! Own errors, at the data's side: raise, except .. as, a field of the caught one. -/
namespace S
open PySem PySem.Spec PyProof.Rows L2 NdefX

/-- __init__(self, x): super().__init__(text); self.x = x -/
def spExc (K : PySem.W.Frag) (C : Addr) (x : Str) : Sp := fun vs H Q _ => ∃ a y, vs = [.ref a, y] ∧ H a = some (exo a C none) ∧ ∀ dx, H dx = none → dx ≠ a → Q .non (upd (upd H dx (exd dx [(x, y)])) a (exo a C (some dx)))
theorem ok_exc {CX : CXT} {P : Program} {w : World} {K : PySem.W.Frag} {mg : Str → Option Value} {base : Heap} {f C : Addr} {name qual x : Str} {params : Arguments} {body : List Stmt} {scope : Scope} {fd : FuncData} {N : List Str} {ar : Arg} {p0 p1 p2 p3 p4 p5 q1 q2 q3 q4 : Pos} {z : Str} {kd : Nat}
    (F : SupF P K C f name qual params body scope fd) (hbody : body = [.Expr (.Call (.Attribute (.Call (.Name "super" p0) [] [] p1) "__init__" p2) [.Constant (.str z) kd p3] [] p4) p5, .Assign [.Attribute (.Name "self" q1) x q2] (.Name x q3) q4])
    (hN : N = [("self" : Str), x, "__class__"]) (Sc : NScope N ["self", x] ["__class__"] scope) (hno : PySem.W.findIn K (.ref C) x = some none)
    (hp : (params.posonlyargs ++ params.args).head? = some ar) (har : ar.arg = "self") (hks : scope.names.lookup ("super" : Str) = some .globalImplicit) (hsup : mg "super" = none) (htop : (P.main.scope.names.lookup ("super" : Str)).isSome = false)
    (hev : ∀ (L cda cc : Addr), ∃ pl : Sem Bool, eval (.Call (.Attribute (.Call (.Name "super" p0) [] [] p1) "__init__" p2) [.Constant (.str z) kd p3] [] p4) (PySem.W.ksEnv qual scope L f (.ref cda) cc) = (do
      let ov ← attributeBase (.Call (.Name "super" p0) [] [] p1) "__init__" (PySem.W.ksEnv qual scope L f (.ref cda) cc) (eval (.Call (.Name "super" p0) [] [] p1) (PySem.W.ksEnv qual scope L f (.ref cda) cc))
      standAt p2.atName
      let (fv, first) ← holding [ov] (getMethod ov "__init__" pl)
      callWith p4 fv first (backTo p4 (starEach [.Constant (.str z) kd p3] (PySem.W.ksEnv qual scope L f (.ref cda) cc))) []))
    (hsw : ∀ env : Env, swapsWith (.Name x q3) (some (.Attribute (.Name "self" q1) x q2)) q4.line env = pure false)
    (hd1 : ("self" == ("__debug__" : Str)) = false := by decide) (hd2 : (x == ("__debug__" : Str)) = false := by decide) (hd3 : (x == ("__classdict__" : Str)) = false := by decide) :
    FnOk P w K mg base CX 1 f fd ["self", x] (spExc K C x) := by
  subst hbody hN
  refine fn_sup (k := 0) F Sc (fun vs H Q E h => ?_) (fun vs H Q E h => ?_) hp (by rw [har]; rfl) hks hsup htop hev (fun cc cda A outer s H vs Q E h => ?_)
  · obtain ⟨a, y, rfl, _⟩ := h
    rfl
  · obtain ⟨a, y, rfl, h, _⟩ := h
    exact ⟨a, [y], rfl, h⟩
  · obtain ⟨a, y, rfl, ha, hq⟩ := h
    refine ⟨_, pss_one (ps_ost (pv 0 rfl (Or.inl (Sc.par _ (by simp))) hd1) (pv 1 rfl (Or.inl (Sc.par _ (by simp))) hd2 hd3) (hsw _)), ?_⟩
    refine ⟨y, rfl, .ref a, rfl, a, C, rfl, F.exc, hno, .inl ⟨ha, fun dx h1 h2 => hq dx h1 h2⟩⟩
/-- raise C(e) -/
def tRaiseO (E : XK) (C : Addr) (sp : Sp) (ta : TA) : TS := fun _ σ H => tMkO C sp [] ta σ H fun cls d H' => E cls d H'
/-- the caught one as a value -/
def dXc (a : Addr) (cls : Value) (d : Option Addr) (e : DX) : Ty := ⟨fun v F => v = .ref a ∧ e.holds cls d F, fun {v F F'} s h => ⟨h.1, h.2.1, fun hne => by
  obtain ⟨dd, fvs, h1, h2, h3⟩ := h.2.2 hne
  exact ⟨dd, fvs, h1, s _ _ h2, fun f t hl => by
    obtain ⟨u, k1, k2⟩ := h3 f t hl
    exact ⟨u, k1, t.up s k2⟩⟩⟩⟩
/-- try: body; except c as slot i: ts. n: how many slots -/
def tTryAs (Kf : PySem.W.Frag) (c : Value) (n i : Nat) (ts : Addr → Value → Option Addr → TS) (Eo : XK) (tb : XK → TS) : TS := fun D σ H =>
  tb (fun cls d H' => ∀ σ' : L2.St, σ'.length = n → wAs Kf c i ts (fun cls d _ H => Eo cls d H) D cls d σ' H') D σ H
section
variable {Z : Zx} {ds : Ds} {cs : CS} {K : Ty → CS → Prop} {Kf : PySem.W.Frag} {te : TE} {E : DE} {Eo : XK} {ke : DK} {C : Addr} {f x : Str} {c : Value} {n i : Nat}
theorem ws_raiseO (h : W (ZE Eo ke) te ds cs fun y cs1 => ke ⟨.ref C, [(x, y)]⟩ cs1) : WS (ZE Eo ke) (tRaiseO Eo C (spExc Kf C x) (tCons te tNil)) E ds cs := fun σ H F D sl c z q =>
  h σ H F sl c z _ fun y cs1 v1 H1 F1 k e c1 r => by
    refine ⟨by simp, fun a ha => ⟨a, v1, rfl, upd_same, fun dx hdx ne => ⟨rfl, dx, [(x, v1)], upd_same, ?_, ?_, ?_⟩⟩⟩
    · rw [upd_ne ne, upd_same]
    · rw [upd_ne ne] at hdx
      exact hdx
    · rw [upd_ne ne] at hdx
      have eH : upd (L2.del (upd (upd (upd H1 a (exo a C none)) dx (exd dx [(x, v1)])) a (exo a C (some dx))) a) dx (.xd [(x, v1)]) = upd H1 dx (.xd [(x, v1)]) := by
        funext b
        by_cases hb : b = dx
        · rw [hb, upd_same, upd_same]
        · rw [upd_ne hb, upd_ne hb]
          by_cases hba : b = a
          · rw [hba, L2.del_same, ha]
          · rw [L2.del_ne hba, upd_ne hba, upd_ne hb, upd_ne hba]
      rw [eH]
      have hF := c1.free hdx
      have up := Same.upd (o := .xd [(x, v1)]) hF
      refine z σ ds _ cs1 _ (some dx) _ (upd F1 dx (.xd [(x, v1)])) k (e.trans up) ((sl.up e).up up) (c1.frozen hdx) ⟨rfl, fun _ => ⟨dx, [(x, v1)], rfl, upd_same, fun g t hl => ?_⟩⟩
      simp only [List.lookup_cons] at hl ⊢
      cases hg : (g == x) with
      | true =>
        rw [hg] at hl
        cases hl
        exact ⟨v1, rfl, y.up up r⟩
      | false =>
        rw [hg] at hl
        cases hl
theorem Sl.nones {F : Hp} {σ : L2.St} (h : σ.length = n) : Sl F σ (List.replicate n none) := ⟨by simp [h], fun j t q => by
  rw [List.getElem?_replicate] at q
  split at q <;> cases q⟩
theorem ws_tryAs {ts : Addr → Value → Option Addr → TS} {tb : XK → TS}
    (h : ∀ XE : XK, WS (ZE XE fun e cs1 => ∃ b, PySem.W.exmOne Kf e.cls c = some b ∧ (b = true → ∀ a cls d, cls = e.cls → cs1 a = none → WS (ZE Eo ke) (ts a cls d) { nx := fun ds cs => E.nx (ds.set i none) cs, rt := E.rt, bk := fun ds cs => E.bk (ds.set i none) cs, ct := fun ds cs => E.ct (ds.set i none) cs } ((List.replicate n none).set i (some (dXc a cls d e))) cs1) ∧ (b = false → ke e cs1)) (tb XE) E ds cs) :
    WS (ZE Eo ke) (tTryAs Kf c n i ts Eo tb) E ds cs := fun σ H F D sl c z q => by
  refine h _ σ H F D sl c (fun _ _ e cs1 cls d H' F' k e1 _ c1 hh σ' hl => ?_) q
  obtain ⟨b, hb, h1, h2⟩ := k
  refine ⟨b, by rw [hh.1]; exact hb, fun e2 a ha => ?_, fun e2 => ?_⟩
  · refine h1 e2 a cls d hh.1 (c1.freeC ha) _ H' F' _ ((Sl.nones hl).set ⟨rfl, hh⟩) c1 (z.up e1) ?_
    have q1 := q.up e1
    exact ⟨fun ds cs σ H F2 k e2 s c => q1.nx _ cs _ H F2 k e2 s.wipe1 c, q1.rt, fun ds cs σ H F2 k e2 s c => q1.bk _ cs _ H F2 k e2 s.wipe1 c, fun ds cs σ H F2 k e2 s c => q1.ct _ cs _ H F2 k e2 s.wipe1 c⟩
  · exact z [] [] e cs1 cls d H' F' (h2 e2) e1 ⟨rfl, fun j t q => by simp at q⟩ c1 hh
/-- e.f in the suite -/
theorem w_xf {a : Addr} {cls : Value} {d : Option Addr} {e : DX} {t : Ty} (h : W Z te ds cs fun x cs1 => x = dXc a cls d e ∧ e.cls = .ref C ∧ e.fs.lookup f = some t ∧ K t cs1) : W Z (tXf a cls d C f te) ds cs K := fun σ H F sl c z Q q =>
  h σ H F sl c z _ fun x cs1 v1 H1 F1 k e1 c1 r => by
    obtain ⟨rfl, hc, hl, k⟩ := k
    obtain ⟨rfl, hcl, hd⟩ := r
    obtain ⟨dd, fvs, rfl, hF, hl2⟩ := hd (fun z => by rw [z] at hl; simp at hl)
    obtain ⟨u, k1, k2⟩ := hl2 _ _ hl
    exact ⟨rfl, hcl.trans hc, dd, fvs, u, rfl, c1.sub _ _ hF, k1, q _ _ _ _ _ k e1 c1 k2⟩
end
/-- the wish of a try's body, for a call in it -/
theorem passes_callN {X : Cx} {Wx : WX} {E : XK} {n : Nat} (tk : Takes X Wx) (hn : X.N.length = n) (h : ∀ cls d σ H, σ.length = n → E cls d H → Wx cls d σ H) : Passes (L2.CX X.prog X.w) X E :=
  fun _ σ _ _ e s' I c => tk e s' (XE.of_call I (fun cls d H' q => h cls d σ H' (I.len.trans hn) q) c)
end S

set_option Elab.async false
set_option linter.all false
set_option maxRecDepth 100000
set_option maxHeartbeats 2000000
set_option autoImplicit false
/-! == by an own __eq__ (true answers); f-strings. -/
namespace S
open PySem PySem.Spec PyProof.Rows L2

def REq (g : Sg) : Addr → Addr → Hp → Prop := fun a b H => ∃ x y : Ty, x.p (.ref a) H ∧ y.p (.ref b) H ∧ g [x, y] (fun _ => none) (fun t _ => t = dB true) fun _ _ => False
theorem REq.mon (g : Sg) : ∀ a b H H', Ext H H' → REq g a b H → REq g a b H' := fun a b H H' e ⟨x, y, h1, h2, h3⟩ => ⟨x, y, x.up e h1, y.up e h2, h3⟩
theorem Cs.none (H : Hp) : Cs H H fun _ => none := ⟨Same.refl H, fun a c q => by cases q⟩
theorem spEq_toSp {g : Sg} {vs : List V} {H : Hp} {Q : VK} {E : XK} (h : spEq (REq g) vs H Q E) : toSp g vs H Q E := by
  obtain ⟨a, b, rfl, ⟨x, y, h1, h2, h3⟩, hq⟩ := h
  exact ⟨H, [x, y], _, _, _, .cons h1 (.one h2), Cs.none H, h3, fun t cs' v H' F' k e c r => by
    subst k
    obtain rfl : v = .bl true := r
    exact hq H' (fun a o q => c.sub _ _ (e _ _ q)), fun e cs' cls d H' F' k => k.elim⟩
abbrev DOwn (C : Addr) (g : Sg) : Eqv := DIns C (REq g)
theorem mon_own {C : Addr} {g : Sg} : Mon (DOwn C g) := mon_ins (REq.mon g)
section
variable {X : Cx} {CX : CXT} {n : Nat} {C f : Addr} {fd : FuncData} {ps : List Str} {g : Sg}
theorem rc_own (F : FnOk X.prog X.w X.K X.mg X.base CX n f fd ps (toSp g)) (hs : PySem.W.findIn X.K (.ref C) "__eq__" = some (some (.ref f))) (hf : PySem.W.isFn X.K (.ref f) = true) (hb : Binds X.K fd ps []) (hx : Passes CX X E0) : RcG X n (DOwn C g) :=
  rcG_ins (F.imp fun _ _ _ _ h => spEq_toSp h) hs hf hb hx
theorem eq_own (F : FnOk X.prog X.w X.K X.mg X.base CX n f fd ps (toSp g)) (hs : PySem.W.findIn X.K (.ref C) "__eq__" = some (some (.ref f))) (hf : PySem.W.isFn X.K (.ref f) = true) (hb : Binds X.K fd ps []) (hx : Passes CX X E0) : EqG X n (DOwn C g) :=
  (rc_own F hs hf hb hx).eqG fun x y H ⟨a, b, _, _, _, _, h1, h2, _⟩ => ⟨a, b, h1, h2⟩
end
section
variable {Z : Zx} {ds : Ds} {cs : CS} {K : Ty → CS → Prop} {Kf : PySem.W.Frag} {C : Addr} {g : Sg}
theorem r2_eqO {fs gs : List (Str × Ty)} (h : g [dO C fs, dO C gs] (fun _ => none) (fun t _ => t = dB true) fun _ _ => False) (k : K (dB true) cs) : R2W (rEqG (DOwn C g)) (dO C fs) (dO C gs) cs K := fun vx vy H F rx ry c Q q => by
  obtain ⟨a, dx, fv, rfl, hF, kf⟩ := rx
  obtain ⟨b, dy, gv, rfl, hG, kg⟩ := ry
  refine ⟨⟨a, b, dx, dy, fv, gv, rfl, rfl, c.sub _ _ hF, c.sub _ _ hG, dO C fs, dO C gs, ⟨a, dx, fv, rfl, c.sub _ _ hF, kf.up c.sub⟩, ⟨b, dy, gv, rfl, c.sub _ _ hG, kg.up c.sub⟩, h⟩, fun H' e => q _ _ _ _ F k (Same.refl F) (c.more e) rfl⟩
theorem r2_eqOT {fss gss : List (List (Str × Ty))} (hl : fss.length = gss.length) (h : ∀ (i : Nat) fs gs, fss[i]? = some fs → gss[i]? = some gs → g [dO C fs, dO C gs] (fun _ => none) (fun t _ => t = dB true) fun _ _ => False) (k : K (dB true) cs) :
    R2W (rEqG (DTup Kf (DOwn C g))) (dT (fss.map (dO C))) (dT (gss.map (dO C))) cs K := fun vx vy H F rx ry c Q q => by
  obtain ⟨a, fv, rfl, hF, kf⟩ := rx
  obtain ⟨b, gv, rfl, hG, kg⟩ := ry
  refine ⟨⟨a, b, fv, gv, rfl, rfl, .of (c.sub _ _ hF), .of (c.sub _ _ hG), by rw [kf.length, kg.length, List.length_map, List.length_map]; exact hl, fun i x y h1 h2 => ?_⟩, fun H' e => q _ _ _ _ F k (Same.refl F) (c.more e) rfl⟩
  have l1 : i < fss.length := by have := (List.getElem?_eq_some_iff.mp h1).1; rw [kf.length, List.length_map] at this; exact this
  have l2 : i < gss.length := hl ▸ l1
  obtain ⟨u, e1, k1⟩ := kf.get (i := i) (t := dO C fss[i]) (by rw [List.getElem?_map, List.getElem?_eq_getElem l1]; rfl)
  obtain ⟨u2, e2, k2⟩ := kg.get (i := i) (t := dO C gss[i]) (by rw [List.getElem?_map, List.getElem?_eq_getElem l2]; rfl)
  rw [h1] at e1
  cases e1
  rw [h2] at e2
  cases e2
  have q1 := (dO C fss[i]).up c.sub k1
  have q2 := (dO C gss[i]).up c.sub k2
  obtain ⟨a, dx, fv, rfl, hF, kf⟩ := k1
  obtain ⟨b, dy, gv, rfl, hG, kg⟩ := k2
  exact ⟨a, b, dx, dy, fv, gv, rfl, rfl, c.sub _ _ hF, c.sub _ _ hG, dO C fss[i], dO C gss[i], q1, q2, h i _ _ (List.getElem?_eq_getElem l1) (List.getElem?_eq_getElem l2)⟩
/-! ### f-strings -/
def tFstr (ts : List TE) : TE := fun σ H Q => tJs ts Str.empty σ H fun out H1 => Q (.str out) H1
def WJ (Z : Zx) (ts : List TE) (acc : Str) (ds : Ds) (cs : CS) (K : Str → CS → Prop) : Prop := ∀ σ H F, Sl F σ ds → Cs H F cs → Z.ok F → ∀ Q : Str → Hp → Prop, (∀ out cs' H' F', K out cs' → Same F F' → Cs H' F' cs' → Q out H') → tJs ts acc σ H Q
variable {t te : TE} {ts : List TE} {acc : Str} {KJ : Str → CS → Prop} {x : Ty}
theorem wj_nil (h : KJ acc cs) : WJ Z [] acc ds cs KJ := fun σ H F sl c z Q q => q _ _ _ F h (Same.refl F) c
theorem wj_cons (h : W Z t ds cs fun x cs1 => ∃ y, x = dS y ∧ (acc ++ y).length ≤ sizeLine ∧ WJ Z ts (acc ++ y) ds cs1 KJ) : WJ Z (t :: ts) acc ds cs KJ := fun σ H F sl c z Q q =>
  h σ H F sl c z _ fun x cs1 v H1 F1 k e c1 r => by
    obtain ⟨y, rfl, hl, k⟩ := k
    obtain rfl : v = .str y := r
    exact ⟨y, rfl, hl, k σ H1 F1 (sl.up e) c1 (z.up e) Q fun out cs' H' F' kk e2 c2 => q out cs' H' F' kk (e.trans e2) c2⟩
theorem w_fstr (h : WJ Z ts Str.empty ds cs fun out cs1 => K (dS out) cs1) : W Z (tFstr ts) ds cs K := fun σ H F sl c z Q q =>
  h σ H F sl c z _ fun out cs' H' F' k e c' => q _ _ _ _ _ k e c' rfl
theorem w_fmtS (h : W Z te ds cs fun x cs1 => ∃ y, x = dS y ∧ y.length ≤ sizeLine ∧ K (dS y) cs1) : W Z (tFmt te) ds cs K := fun σ H F sl c z Q q =>
  h σ H F sl c z _ fun x cs1 v H1 F1 k e c1 r => by
    obtain ⟨y, rfl, hl, k⟩ := k
    obtain rfl : v = .str y := r
    exact .inl ⟨y, rfl, hl, q _ _ _ _ _ k e c1 rfl⟩
theorem w_fmtI (h : W Z te ds cs fun x cs1 => ∃ i, x = dI i ∧ i.natAbs.log2 < 1920 ∧ K (dS (toString i)) cs1) : W Z (tFmt te) ds cs K := fun σ H F sl c z Q q =>
  h σ H F sl c z _ fun x cs1 v H1 F1 k e c1 r => by
    obtain ⟨i, rfl, hl, k⟩ := k
    obtain rfl : v = .int i := r
    exact .inr ⟨i, rfl, hl, q _ _ _ _ _ k e c1 rfl⟩
end
end S

set_option Elab.async false
set_option linter.all false
set_option maxRecDepth 100000
set_option maxHeartbeats 2000000
set_option autoImplicit false
/-! Freezing; what is said of a law's written part. -/
namespace S
open PySem PySem.Spec PyProof.Rows L2

/-- what is x with the cells cs may be told as y with cs' -/
def FrzR (cs : CS) (x y : Ty) (cs' : CS) : Prop := ∀ v H F, x.p v F → Cs H F cs → ∃ F', Same F F' ∧ Cs H F' cs' ∧ y.p v F'
section
variable {Z : Zx} {ds : Ds} {cs : CS} {K : Ty → CS → Prop} {te : TE} {E : DE} {ts : TS} {x y z : Ty} {cs' cs'' : CS}
theorem w_frz (h : W Z te ds cs fun x cs1 => ∃ y cs2, FrzR cs1 x y cs2 ∧ K y cs2) : W Z te ds cs K := fun σ H F sl c z Q q =>
  h σ H F sl c z _ fun x cs1 v H1 F1 k e c1 r => by
    obtain ⟨y, cs2, hf, k⟩ := k
    obtain ⟨F2, e2, c2, r2⟩ := hf v H1 F1 r c1
    exact q _ _ _ _ _ k (e.trans e2) c2 r2
theorem FrzR.refl : FrzR cs x x cs := fun v H F r c => ⟨F, Same.refl F, c, r⟩
theorem FrzR.trans (h : FrzR cs x y cs') (k : FrzR cs' y z cs'') : FrzR cs x z cs'' := fun v H F r c => by
  obtain ⟨F1, e1, c1, r1⟩ := h v H F r c
  obtain ⟨F2, e2, c2, r2⟩ := k v H F1 r1 c1
  exact ⟨F2, e1.trans e2, c2, r2⟩
theorem frz_lst {a : Addr} {ts : List Ty} (h : cs a = some (.lst ts)) : FrzR cs (dR a) (dL ts) (cs.del a) := fun v H F r c => by
  obtain ⟨o, ho, e, c2⟩ := c.freeze h
  obtain ⟨vs, hv, kt⟩ := c.lst h
  rw [hv] at ho
  cases ho
  obtain rfl : v = .ref a := r
  exact ⟨_, e, c2, a, vs, rfl, upd_same, kt.up e⟩
theorem frz_ins {a C : Addr} {fs : List (Str × Ty)} (h : cs a = some (.ins C fs)) : FrzR cs (dR a) (dO C fs) (cs.del a) := fun v H F r c => by
  obtain ⟨o, ho, e, c2⟩ := c.freeze h
  obtain ⟨dx, fv, hv, kt⟩ := c.ins h
  rw [hv] at ho
  cases ho
  obtain rfl : v = .ref a := r
  exact ⟨_, e, c2, a, dx, fv, rfl, upd_same, kt.up e⟩
/-- a name's list is frozen -/
theorem ws_frzL {a : Addr} {us : List Ty} (ds' : Ds) (h : cs a = some (.lst us)) (hl : ds'.length = ds.length) (hd : ∀ (i : Nat) (t : Ty), ds'[i]? = some (some t) → ds[i]? = some (some t) ∨ (ds[i]? = some (some (dR a)) ∧ t = dL us)) (k : WS Z ts E ds' (cs.del a)) : WS Z ts E ds cs := fun σ H F D sl c z q => by
  obtain ⟨o, ho, e, c2⟩ := c.freeze h
  obtain ⟨vs, hv, kt⟩ := c.lst h
  rw [hv] at ho
  cases ho
  refine k σ H _ D ⟨sl.len.trans hl.symm, fun i t hi => ?_⟩ c2 (z.up e) (q.up e)
  rcases hd i t hi with h3 | ⟨h3, rfl⟩
  · obtain ⟨v, h1, h2⟩ := sl.at_ i t h3
    exact ⟨v, h1, t.up e h2⟩
  · obtain ⟨v, h1, h2⟩ := sl.at_ i _ h3
    obtain rfl : v = .ref a := h2
    exact ⟨.ref a, h1, a, vs, rfl, upd_same, kt.up e⟩
/-- fewer cells, fewer names -/
theorem ws_less (ds' : Ds) (cs' : CS) (hl : ds'.length = ds.length) (hd : ∀ (i : Nat) (t : Ty), ds'[i]? = some (some t) → ds[i]? = some (some t)) (hc : ∀ a c, cs' a = some c → cs a = some c) (k : WS Z ts E ds' cs') : WS Z ts E ds cs := fun σ H F D sl c z q =>
  k σ H F D ⟨sl.len.trans hl.symm, fun i t hi => sl.at_ i t (hd i t hi)⟩ (c.less hc) z q
end

abbrev tTruA (Kf : PySem.W.Frag) (te : TE) : TT := fun σ H Q => te σ H fun x H' => ∃ k, TruV Kf x H' k ∧ Q k H'
/-! ### promises by the number of arguments -/
def sg0 (f : CS → (Ty → CS → Prop) → DK → Prop) : Sg := fun ts cs K ke => ts = [] ∧ f cs K ke
def sg1 (f : Ty → CS → (Ty → CS → Prop) → DK → Prop) : Sg := fun ts cs K ke => ∃ x, ts = [x] ∧ f x cs K ke
def sg2 (f : Ty → Ty → CS → (Ty → CS → Prop) → DK → Prop) : Sg := fun ts cs K ke => ∃ x y, ts = [x, y] ∧ f x y cs K ke
def sg3 (f : Ty → Ty → Ty → CS → (Ty → CS → Prop) → DK → Prop) : Sg := fun ts cs K ke => ∃ x y z, ts = [x, y, z] ∧ f x y z cs K ke
def sg4 (f : Ty → Ty → Ty → Ty → CS → (Ty → CS → Prop) → DK → Prop) : Sg := fun ts cs K ke => ∃ x y z w, ts = [x, y, z, w] ∧ f x y z w cs K ke
def sg5 (f : Ty → Ty → Ty → Ty → Ty → CS → (Ty → CS → Prop) → DK → Prop) : Sg := fun ts cs K ke => ∃ x y z w v, ts = [x, y, z, w, v] ∧ f x y z w v cs K ke
theorem sg0_len {f : CS → (Ty → CS → Prop) → DK → Prop} : ∀ ts cs K ke, sg0 f ts cs K ke → ts.length = 0 := fun _ _ _ _ ⟨e, _⟩ => by rw [e]; rfl
theorem sg1_len {f : Ty → CS → (Ty → CS → Prop) → DK → Prop} : ∀ ts cs K ke, sg1 f ts cs K ke → ts.length = 1 := fun _ _ _ _ ⟨_, e, _⟩ => by rw [e]; rfl
theorem sg2_len {f : Ty → Ty → CS → (Ty → CS → Prop) → DK → Prop} : ∀ ts cs K ke, sg2 f ts cs K ke → ts.length = 2 := fun _ _ _ _ ⟨_, _, e, _⟩ => by rw [e]; rfl
theorem sg3_len {f : Ty → Ty → Ty → CS → (Ty → CS → Prop) → DK → Prop} : ∀ ts cs K ke, sg3 f ts cs K ke → ts.length = 3 := fun _ _ _ _ ⟨_, _, _, e, _⟩ => by rw [e]; rfl
theorem sg4_len {f : Ty → Ty → Ty → Ty → CS → (Ty → CS → Prop) → DK → Prop} : ∀ ts cs K ke, sg4 f ts cs K ke → ts.length = 4 := fun _ _ _ _ ⟨_, _, _, _, e, _⟩ => by rw [e]; rfl
theorem sg5_len {f : Ty → Ty → Ty → Ty → Ty → CS → (Ty → CS → Prop) → DK → Prop} : ∀ ts cs K ke, sg5 f ts cs K ke → ts.length = 5 := fun _ _ _ _ ⟨_, _, _, _, _, e, _⟩ => by rw [e]; rfl

/-! ### facts as Bools -/
def fdOf (K : PySem.W.Frag) (a : Addr) : FuncData := match K.lookup a with
  | some ⟨_, _, .func fd, _⟩ => fd
  | _ => PySem.W.fnOf "" "" (L2.defArgs (.Pass ⟨0, 0, 0, 0⟩)) [] (L2.defScope (.Pass ⟨0, 0, 0, 0⟩)) .none .none .none .none none .none .none
theorem funD_of {K : PySem.W.Frag} {x q : Str} {ps : Arguments} {b : List Stmt} {sc : Scope} {ds : List V} {ks : List (Str × V)} {f : Addr} (h : ∃ fd, FunD K x q ps b sc ds ks f fd) : FunD K x q ps b sc ds ks f (fdOf K f) := by
  obtain ⟨fd, F⟩ := h
  obtain ⟨oc, od, dV, kV, doc, pm, an, cdv, ct, osl, e, l, r⟩ := F.ex
  have e2 : fdOf K f = fd := by
    unfold fdOf
    rw [l]
  rw [e2]
  exact F
theorem binds_all {K : PySem.W.Frag} {x q : Str} {ps : Arguments} {b : List Stmt} {sc : Scope} {dvs : List V} {ks : List (Str × V)} {f : Addr} {fd : FuncData} {ns : List Str} (F : FunD K x q ps b sc dvs ks f fd) (hd : dvs ≠ [])
    (h : ∀ (T : Addr) (kV doc pm : Value) (an : Option Addr) (cdv ct : Value) (us its : List Value), us.length = ns.length → its.length = dvs.length →
      ∃ k, bindArgs (PySem.W.fnOf x q ps b sc (.ref T) kV doc pm an cdv ct) ⟨us, []⟩ = seqItems? (.ref T) >>= k ∧ k (some its.toArray) = pure (ns.zip (us ++ its.drop dvs.length))) : Binds K fd ns [] := by
  obtain ⟨ds, r, hb⟩ := F.binds1 ns.length dvs.length hd (by simp) h
  rw [List.drop_length] at r
  cases r
  exact hb
def isiB (K : PySem.W.Frag) (C : Addr) : Bool := He.eqO (PySem.W.findIn K (.ref C) "__class__") (some (some (.builtin "object.__class__"))) && (He.eqO (PySem.W.specialIn K (.builtin "object.__class__") "__get__") (some (some (.builtin "getset_descriptor.__get__"))) &&
  (decide (PySem.W.takesIn K (.builtin "object.__class__") = some true) && decide (PySem.W.mroIn K C (.type "object") = some true)))
theorem isi_ok {K : PySem.W.Frag} {C : Addr} (h : isiB K C = true) : IsiC K C := by
  obtain ⟨h1, h⟩ := He.ba h
  obtain ⟨h2, h⟩ := He.ba h
  obtain ⟨h3, h4⟩ := He.ba h
  exact ⟨He.eqO_ok h1, He.eqO_ok h2, of_decide_eq_true h3, of_decide_eq_true h4⟩
def mk0B (K : PySem.W.Frag) (C : Addr) : Bool := PySem.W.makesIn K C && (He.eqO (PySem.W.findIn K (.ref C) "__init__") (some (some (.builtin "object.__init__"))) && PySem.W.keepIn K (.ref C))
theorem mk0_ok {K : PySem.W.Frag} {C : Addr} (h : mk0B K C = true) : Mk0 K C := by
  obtain ⟨h1, h⟩ := He.ba h
  obtain ⟨h2, h3⟩ := He.ba h
  exact ⟨h1, He.eqO_ok h2, h3⟩
def creadB (K : PySem.W.Frag) (C : Addr) : Bool := PySem.W.readsIn K C (.type "type") && He.eqO (PySem.W.specialIn K (.ref C) "__getattribute__") (some (some (.builtin "type.__getattribute__")))
theorem cread_ok {K : PySem.W.Frag} {C : Addr} (h : creadB K C = true) : ClX.CRead K C (.type "type") := by
  obtain ⟨h1, h2⟩ := He.ba h
  exact ⟨h1, He.eqO_ok h2⟩
def cvalB (K : PySem.W.Frag) (C : Addr) (f : Str) (v : He.Dv) : Bool := match PySem.W.findCls K (.ref C) (.type "type") f with
  | some (.val u) => He.relB (v.v K) u
  | _ => false
theorem cval_ok {K : PySem.W.Frag} {C : Addr} {f : Str} {v : He.Dv} (h : cvalB K C f v = true) : ∃ u, ClX.CVal K C (.type "type") f (v.v K) u := by
  unfold cvalB at h
  split at h
  · rename_i u e
    exact ⟨u, e, He.relB_ok h⟩
  · cases h
def oexB (K : PySem.W.Frag) (C : Addr) : Bool := (match K.lookup C with
  | some ⟨.type "type", _, .cls cd, sl⟩ => (match cd.mro, sl.toList with
    | .ref C' :: bm, [_, _, _, _, some (.builtin n), _] => C' == C && n == "ValueError.__new__" && !cd.hasDel && cd.hasDict && HandSPX.refsVE bm
    | _, _ => false)
  | _ => false) && (He.eqO (PySem.W.findIn K (.ref C) "__setattr__") (some (some (.builtin "object.__setattr__"))) && (decide (PySem.W.subIn K (.ref C) (.type "BaseException") = some true) && (decide (PySem.W.typeIn K (.ref C) = some (.type "type")) && PySem.W.keepIn K (.ref C))))
theorem oex_ok {K : PySem.W.Frag} {C : Addr} (h : oexB K C = true) : OexC K C := by
  obtain ⟨q, h⟩ := He.ba h
  obtain ⟨h2, h⟩ := He.ba h
  obtain ⟨h3, h⟩ := He.ba h
  obtain ⟨h4, h5⟩ := He.ba h
  refine ⟨?_, He.eqO_ok h2, of_decide_eq_true h3, of_decide_eq_true h4, h5⟩
  split at q
  · rename_i dd cd sl ho
    split at q
    · rename_i C' bm k0 k1 k2 k3 n k5 hm hs
      simp only [Bool.and_eq_true, beq_iff_eq, Bool.not_eq_true'] at q
      obtain ⟨⟨⟨⟨rfl, rfl⟩, hdel⟩, hdct⟩, ht⟩ := q
      obtain ⟨nm, bs, mro, ns, qn, hd, sn, sub, ab, col, del⟩ := cd
      dsimp only at hm hdel hdct
      subst hm hdel hdct
      obtain ⟨l⟩ := sl
      simp only at hs
      subst hs
      exact ⟨nm, qn, ns, bs, bm, sn, sub, ab, col, dd, k0, k1, k2, k3, k5, ho, ht⟩
    · cases q
  · cases q
/-- a def with the closure cell __class__ -/
abbrev FnC : Type := Option (Str × Str × Arguments × FuncBody × Scope × Addr × List Str × Addr)
def fnC (K : PySem.W.Frag) (a : Addr) : FnC := match K.lookup a with
  | some ⟨_, _, .func fd, _⟩ => some (fd.name, fd.qualname, fd.params, fd.body, fd.scope, fd.globals, fd.closure.map (·.1), fd.builtins)
  | _ => none
def supB (P : Program) (K : PySem.W.Frag) (C f : Addr) (qual : Str) : Bool := oexB K C && ((match K.lookup f with
  | some ⟨_, _, .func fd, _⟩ => PySem.W.codeIn K fd.code qual && (He.dflB K fd.defaults [] && match fd.closure, fd.code with
    | [(_, cc)], .ref cda => (match K.lookup cc, K.lookup cda with
      | some ⟨_, _, .cell (some (.ref D)), _⟩, some ⟨_, _, .fields vs, _⟩ => (PySem.W.clsIn K D).isSome && (decide (PySem.W.mroIn K C (.ref D) = some true) && (He.eqO (PySem.W.ks_superIn K C D "__init__") (some (some (.builtin "ValueError.__init__"))) && (match (vs[2]? : Option Value) with
        | some (.str file _) => (P.main.file : Str) == file
        | _ => false)))
      | _, _ => false)
    | _, _ => false)
  | _ => false) && (He.eqO (PySem.W.nsIn K mainGlobals "super") (some none) && (He.eqO (PySem.W.nsIn K cStatics "thirdparty.any") (some none) && (decide (PySem.W.subIn K (.ref C) (.type "ValueError") = some true) &&
    (He.eqO (PySem.W.findIn K (.ref C) "__init__") (some (some (.ref f))) && decide (PySem.W.typeIn K (.ref f) = some (.type "function")))))))
theorem sup_ok {P : Program} {K : PySem.W.Frag} {C f : Addr} {name qual : Str} {params : Arguments} {body : List Stmt} {scope : Scope} (e : fnC K f = (some (name, qual, params, FuncBody.stmts body, scope, mainGlobals, [("__class__" : Str)], builtinsNs) : FnC)) (h : supB P K C f qual = true) : SupF P K C f name qual params body scope (fdOf K f) := by
  obtain ⟨h0, h⟩ := He.ba h
  obtain ⟨h1, h⟩ := He.ba h
  obtain ⟨h2, h⟩ := He.ba h
  obtain ⟨h3, h⟩ := He.ba h
  obtain ⟨h4, h⟩ := He.ba h
  obtain ⟨h5, h6⟩ := He.ba h
  refine ⟨oex_ok h0, ?_, He.eqO_ok h2, He.eqO_ok h3, of_decide_eq_true h4, He.eqO_ok h5, of_decide_eq_true h6⟩
  unfold fnC at e
  unfold fdOf
  cases q : K.lookup f with
  | none =>
    rw [q] at e
    cases e
  | some o =>
    obtain ⟨oc, od, dt, osl⟩ := o
    rw [q] at e h1
    cases dt with
    | func fd =>
      obtain ⟨n1, n2, n3, n4, n5, n6, n7, n8, n9, n10, n11, n12, n13, n14, n15⟩ := fd
      have e2 : (some (n1, n2, n3, n4, n5, n6, n7.map (·.1), n15) : FnC) = some (name, qual, params, FuncBody.stmts body, scope, mainGlobals, [("__class__" : Str)], builtinsNs) := e
      simp only [Option.some.injEq, Prod.mk.injEq] at e2
      obtain ⟨rfl, rfl, rfl, rfl, rfl, rfl, hcl, rfl⟩ := e2
      dsimp only at h1
      have k1 := (He.ba h1).1
      have k0 := (He.ba (He.ba h1).2).1
      replace h1 := (He.ba (He.ba h1).2).2
      have e8 : n8 = .none := by
        clear h1
        cases n8 <;> first | rfl | cases k0
      subst e8
      split at h1
      · rename_i nm cc cda
        split at h1
        · rename_i cl cld D csl ccl cdd vs ccs l1 l2
          have k2 := (He.ba h1).1
          have k3 := (He.ba (He.ba h1).2).1
          have k4 := (He.ba (He.ba (He.ba h1).2).2).1
          have k5 := (He.ba (He.ba (He.ba h1).2).2).2
          split at k5
          · rename_i file tf hv
            obtain ⟨cdD, hD⟩ := Option.isSome_iff_exists.mp k2
            simp only [List.map_cons, List.map_nil, List.cons.injEq, and_true] at hcl
            subst hcl
            exact ⟨oc, od, n12, osl, n9, n10, n11, n14, cda, cc, D, cdD, ccl, cdd, vs, ccs, file, tf, cl, cld, csl, rfl, rfl, k1, l1, hD, of_decide_eq_true k3, He.eqO_ok k4, l2, hv, k5⟩
          · cases k5
        · cases h1
      · cases h1
    | _ => cases e
/-! ### the hook -/
abbrev FactL : Type := List (PySem.W.Frag → Bool)
abbrev AlS : Type := Bool × List He5.FnW × List FnC
def DefC (d : He5.DefA) : FnC := some (d.name, d.qual, d.params, FuncBody.stmts d.body, d.scope, mainGlobals, [("__class__" : Str)], builtinsNs)
def obsS (ex : FactL) (fn cn : List He5.DefA) (K : PySem.W.Frag) : AlS := ((ex.all fun f => f K) && fn.all fun d => d.ok K, fn.map fun d => He5.fnA K (d.at_ K), cn.map fun d => fnC K (d.at_ K))
def valS (fn cn : List He5.DefA) : AlS := (true, fn.map He5.DefA.val, cn.map DefC)
def SaysS (ex : FactL) (fn cn : List He5.DefA) (K : PySem.W.Frag) : Prop := obsS ex fn cn K = valS fn cn
def obsSG (n : Nat) (ex : FactL) (fn cn : List He5.DefA) (g : Addr → Option Obj) : AlS := obsS ex fn cn (He.frG g (He5.asA g n))
def hookS (n : Nat) (ex : FactL) (fn cn : List He5.DefA) : PySem.W.Hook where
  α := AlS
  obs := fun s => obsSG n ex fn cn s.heap.get?
  val := fun _ => valS fn cn
  says := fun _ h => ∃ K : PySem.W.Frag, K.In h ∧ SaysS ex fn cn K
  of := fun _ _ e => ⟨_, He.frG_in, e⟩
  keeps := fun _ _ _ ⟨K, hK, c⟩ k => ⟨K, PySem.W.Frag.In.keeps hK k, c⟩
theorem obsSG_eq {n : Nat} {ex : FactL} {fn cn : List He5.DefA} {g : Addr → Option Obj} {s : Shared} (h : ∀ a, g a = s.heap.get? a) : obsSG n ex fn cn g = (hookS n ex fn cn).obs s := by
  rw [show g = s.heap.get? from funext h]; rfl
/-- the objects that the facts look at: the module's names, the classes cs and their dicts, xs (property objects ..), the defs, their codes -/
def nsOf (g : Addr → Option Obj) (a : Addr) : List Addr := match g a with
  | some ⟨_, _, .cls cd, _⟩ => [cd.ns]
  | _ => []
def fnRefs (g : Addr → Option Obj) (a : Addr) : List Addr := match g a with
  | some ⟨_, _, .func fd, _⟩ => He.refV fd.code ++ (He.refV fd.defaults ++ fd.closure.map (·.2))
  | _ => []
def asN (cs : List Str) (xs : List (PySem.W.Frag → Addr)) (fn cn : List He5.DefA) (g : Addr → Option Obj) : List Addr :=
  let a0 := [mainGlobals, cStatics]
  let k0 := He.frG g a0
  let a1 := cs.map fun x => He.ga k0 x
  let a2 := a1.flatMap (nsOf g)
  let k2 := He.frG g (a0 ++ (a1 ++ a2))
  let a3 := xs.map fun f => f k2
  let k3 := He.frG g (a0 ++ (a1 ++ (a2 ++ a3)))
  let a4 := (fn ++ cn).map fun d => d.at_ k3
  a0 ++ (a1 ++ (a2 ++ (a3 ++ (a4 ++ a4.flatMap (fnRefs g)))))
def obsNG (cs : List Str) (xs : List (PySem.W.Frag → Addr)) (ex : FactL) (fn cn : List He5.DefA) (g : Addr → Option Obj) : AlS := obsS ex fn cn (He.frG g (asN cs xs fn cn g))
def hookN (cs : List Str) (xs : List (PySem.W.Frag → Addr)) (ex : FactL) (fn cn : List He5.DefA) : PySem.W.Hook where
  α := AlS
  obs := fun s => obsNG cs xs ex fn cn s.heap.get?
  val := fun _ => valS fn cn
  says := fun _ h => ∃ K : PySem.W.Frag, K.In h ∧ SaysS ex fn cn K
  of := fun _ _ e => ⟨_, He.frG_in, e⟩
  keeps := fun _ _ _ ⟨K, hK, c⟩ k => ⟨K, PySem.W.Frag.In.keeps hK k, c⟩
theorem obsNG_eq {cs : List Str} {xs : List (PySem.W.Frag → Addr)} {ex : FactL} {fn cn : List He5.DefA} {g : Addr → Option Obj} {s : Shared} (h : ∀ a, g a = s.heap.get? a) : obsNG cs xs ex fn cn g = (hookN cs xs ex fn cn).obs s := by
  rw [show g = s.heap.get? from funext h]; rfl
section
variable {ex : FactL} {fn cn : List He5.DefA} {K : PySem.W.Frag}
theorem SaysS.bool (c : SaysS ex fn cn K) : ((ex.all fun f => f K) && fn.all fun d => d.ok K) = true := congrArg (fun z : AlS => z.1) c
theorem SaysS.fact (c : SaysS ex fn cn K) (i : Nat) {f : PySem.W.Frag → Bool} (h : ex[i]? = some f := by rfl) : f K = true := List.all_eq_true.mp (He.ba c.bool).1 f (List.mem_of_getElem? h)
theorem SaysS.def_ (c : SaysS ex fn cn K) (i : Nat) {d : He5.DefA} (h : fn[i]? = some d := by rfl) : FunD K d.name d.qual d.params d.body d.scope (d.dvs K) (d.kws K) (d.at_ K) (fdOf K (d.at_ K)) := by
  have e : (fn.map fun d => He5.fnA K (d.at_ K))[i]? = (fn.map He5.DefA.val)[i]? := congrArg (fun z : AlS => z.2.1[i]?) c
  rw [List.getElem?_map, List.getElem?_map, h] at e
  exact funD_of (He5.DefA.funD (Option.some.inj e) (List.all_eq_true.mp (He.ba c.bool).2 d (List.mem_of_getElem? h)))
theorem SaysS.sup (c : SaysS ex fn cn K) (i : Nat) {d : He5.DefA} (h : cn[i]? = some d := by rfl) : fnC K (d.at_ K) = DefC d := by
  have e : (cn.map fun d => fnC K (d.at_ K))[i]? = (cn.map DefC)[i]? := congrArg (fun z : AlS => z.2.2[i]?) c
  rw [List.getElem?_map, List.getElem?_map, h] at e
  exact Option.some.inj e
end
/-- the module's names -/
structure MgOk (K : PySem.W.Frag) (mg : Str → Option Value) : Prop where
  ex : ∃ h : Heap, K.In h ∧ h.Ns mainGlobals mg
section
variable {K : PySem.W.Frag} {mg : Str → Option Value} {x : Str}
theorem MgOk.glo (M : MgOk K mg) (c : (He.Fa.glo x).ok K = true) : mg x = some (.ref (He.ga K x)) := let ⟨_, X, G⟩ := M.ex; He.glo_ok X G c
theorem MgOk.free (M : MgOk K mg) (c : (He.Fa.free x).ok K = true) : mg x = none := let ⟨_, X, G⟩ := M.ex; He.free_ok X G c
theorem MgOk.int (M : MgOk K mg) {i : Int} (c : (He.Fa.int x i).ok K = true) : ∃ t, mg x = some (.int i t) := let ⟨_, X, G⟩ := M.ex; He.int_ok X G c
theorem MgOk.str (M : MgOk K mg) {z : Str} (c : (He.Fa.str x z).ok K = true) : ∃ t, mg x = some (.str z t) := let ⟨_, X, G⟩ := M.ex; He.str_ok X G c
end
theorem fn_none {P : Program} {w : World} {K : PySem.W.Frag} {mg : Str → Option Value} {base : Heap} {CX : CXT} {k : Nat} {f : Addr} {fd : FuncData} {ps : List Str} {g : Sg} (h : ∀ ts cs Kk ke, g ts cs Kk ke → False) : FnOk P w K mg base CX k f fd ps (toSp g) :=
  ⟨fun vs H Q E ⟨F, ts, cs, K, ke, _, _, hg, _⟩ => (h _ _ _ _ hg).elim, fun A outer s H args us vs Q E _ _ _ _ ⟨F, ts, cs, K, ke, _, _, hg, _⟩ => (h _ _ _ _ hg).elim⟩
/-! ### constants of the module -/
section
variable {X : Cx} {x : Str} {pos : Pos}
theorem pe_cint {i : Int} (h : ∃ t, X.mg x = some (.int i t)) (hg : Gl X x := by rfl) (hd : (x == ("__debug__" : Str)) = false := by decide) : PE X (.Name x pos) (tC (.int i)) := by
  obtain ⟨t, h⟩ := h
  exact pe_glob hg h ⟨t, rfl⟩ hd
theorem pe_cstr {z : Str} (h : ∃ t, X.mg x = some (.str z t)) (hg : Gl X x := by rfl) (hd : (x == ("__debug__" : Str)) = false := by decide) : PE X (.Name x pos) (tC (.str z)) := by
  obtain ⟨t, h⟩ := h
  exact pe_glob hg h ⟨t, rfl⟩ hd
end
end S

set_option Elab.async false
set_option linter.all false
set_option maxRecDepth 100000
set_option maxHeartbeats 2000000
set_option autoImplicit false
/-! Small things for the steps. -/
namespace S
open PySem PySem.Spec PyProof.Rows L2
theorem ite_d {p : Prop} [Decidable p] {A B : Prop} (h1 : p → A) (h2 : ¬ p → B) : if decide p = true then A else B := by
  by_cases h : p
  · rw [if_pos (decide_eq_true h)]; exact h1 h
  · rw [if_neg (by simpa using h)]; exact h2 h
theorem ite_nd {p : Prop} [Decidable p] {A B : Prop} (h1 : ¬ p → A) (h2 : p → B) : if (!decide p) = true then A else B := by
  by_cases h : p
  · rw [if_neg (by simpa using h)]; exact h2 h
  · rw [if_pos (by simpa using h)]; exact h1 h
theorem ite_b {b : Bool} {A B : Prop} (h1 : b = true → A) (h2 : b = false → B) : if b = true then A else B := by
  cases b
  · exact h2 rfl
  · exact h1 rfl
theorem ite_nb {b : Bool} {A B : Prop} (h1 : b = false → A) (h2 : b = true → B) : if (!b) = true then A else B := by
  cases b
  · exact h1 rfl
  · exact h2 rfl
theorem ite_t {A B : Prop} (h1 : A) : if true = true then A else B := h1
theorem ite_nt {A B : Prop} (h1 : B) : if (!true) = true then A else B := h1
theorem ite_nf {A B : Prop} (h1 : A) : if (!false) = true then A else B := h1
theorem ite_f {A B : Prop} (h1 : B) : if false = true then A else B := h1
section
variable {Z : Zx} {ds : Ds} {cs : CS} {ts : TS} {E : DE}
theorem ws_nx (I : Ds → CS → Prop) (h : WS Z ts { E with nx := I } ds cs) (k : ∀ ds' cs', I ds' cs' → E.nx ds' cs') : WS Z ts E ds cs := fun σ H F D sl c z q =>
  h σ H F D sl c z ⟨fun ds cs σ H F' kk e s c => q.nx ds cs σ H F' (k ds cs kk) e s c, q.rt, q.bk, q.ct⟩
end
theorem len_le {xs : List Ty} {n : Nat} (h : xs.length = n) (h2 : n ≤ sizeLine) : xs.length ≤ sizeLine := h ▸ h2
theorem lg_lt {i : Int} {k : Nat} (h : i.natAbs < 2 ^ k) (h0 : 0 < k) : i.natAbs.log2 < k := PySem.Flt.log2_lt_of h0 h
theorem lg_le {i : Int} : i.natAbs.log2 ≤ i.natAbs := Nat.log2_le_self _
theorem lg_mono {m n : Nat} (h : m ≤ n) : m.log2 ≤ n.log2 := by
  by_cases h0 : m = 0
  · subst h0; simp
  · exact (Nat.le_log2 (by omega)).mpr (Nat.le_trans (Nat.log2_self_le h0) h)
section
variable {Z : Zx} {ds : Ds} {cs : CS} {K : Ds → CS → Prop} {to ti : TE} {t : Ty}
def SubW (o i t : Ty) (ds : Ds) (cs : CS) (K : Ds → CS → Prop) : Prop := ∃ a ts k j, o = dR a ∧ i = dI k ∧ cs a = some (.lst ts) ∧ ixN ts.length k = some j ∧ K ds (cs.set a (.lst (ts.set j t)))
theorem wg_subLs (h : W Z to ds cs fun o cs1 => W Z ti ds cs1 fun i cs2 => SubW o i t ds cs2 K) : WG Z (gSub to ti rSetL) t ds cs K := wg_subL h
theorem subw {a : Addr} {ts : List Ty} {k : Int} {j : Nat} (h1 : cs a = some (.lst ts)) (h2 : ixN ts.length k = some j) (kk : K ds (cs.set a (.lst (ts.set j t)))) : SubW (dR a) (dI k) t ds cs K := ⟨a, ts, k, j, rfl, rfl, h1, h2, kk⟩
end
section
variable {Z : Zx} {ds : Ds} {cs : CS} {K : Ty → CS → Prop} {Kf : PySem.W.Frag} {x y : Ty} {ts us : List Ty} {a : Addr}
theorem post_frz {F : Hp} {Q : VK} (q : Post F K Q) : Post F (fun x cs1 => ∃ y cs2, FrzR cs1 x y cs2 ∧ K y cs2) Q := fun t cs' v H' F' k e c r => by
  obtain ⟨y, cs2, hf, k⟩ := k
  obtain ⟨F2, e2, c2, r2⟩ := hf v H' F' r c
  exact q _ _ _ _ _ k (e.trans e2) c2 r2
theorem rlw_frz {r : List V → Hp → VK → Prop} {xs : List Ty} (h : RLW r xs cs fun x cs1 => ∃ y cs2, FrzR cs1 x y cs2 ∧ K y cs2) : RLW r xs cs K := fun vs H F rs c Q q => h vs H F rs c Q (post_frz q)
theorem rmw_frz {r : V → List V → Hp → VK → Prop} {xs : List Ty} (h : RMW r x xs cs fun x cs1 => ∃ y cs2, FrzR cs1 x y cs2 ∧ K y cs2) : RMW r x xs cs K := fun v vs H F r1 rs c Q q => h v vs H F r1 rs c Q (post_frz q)
theorem r2w_frz {r : R2} (h : R2W r x y cs fun x cs1 => ∃ y cs2, FrzR cs1 x y cs2 ∧ K y cs2) : R2W r x y cs K := fun v u H F r1 rs c Q q => h v u H F r1 rs c Q (post_frz q)
theorem frz_new (h : cs a = none) : FrzR (cs.set a (.lst ts)) (dR a) (dL ts) cs := by
  have q := frz_lst (cs := cs.set a (.lst ts)) (a := a) (ts := ts) CS.same
  rw [CS.del_set h] at q
  exact q
theorem frz_newO {C : Addr} {fs : List (Str × Ty)} (h : cs a = none) : FrzR (cs.set a (.ins C fs)) (dR a) (dO C fs) cs := by
  have q := frz_ins (cs := cs.set a (.ins C fs)) (a := a) (C := C) (fs := fs) CS.same
  rw [CS.del_set h] at q
  exact q
theorem frz_less {cs' : CS} (h : ∀ a c, cs' a = some c → cs a = some c) : FrzR cs x x cs' := fun v H F r c => ⟨F, Same.refl F, c.less h, r⟩
theorem rl_listF (h : IsQ cs x ts) (k : K (dL ts) cs) : RLW (rListA Kf) [x] cs K := rlw_frz (rl_list h fun a ha => ⟨_, _, frz_new ha, k⟩)
theorem w_lstF {tr : TA} (h : WA Z tr ds cs fun xs cs1 => xs.length ≤ sizeLine ∧ K (dL xs) cs1) : W Z (tLst tr) ds cs K := w_frz (w_lst fun σ H F sl c z Q q => h σ H F sl c z Q fun ts cs' vs H' F' k => q ts cs' vs H' F' ⟨k.1, fun a ha => ⟨_, _, frz_new ha, k.2⟩⟩)
theorem rl_sortedF {ns : List Int} (h : IsL cs x (ns.map dI)) (k : ∀ (ns' : List Int), ns'.Perm ns → ns'.Pairwise (· ≤ ·) → K (dL (ns'.map dI)) cs) : RLW (rSortedI Kf) [x] cs K := rlw_frz (rl_sorted h fun a ns' ha h1 h2 => ⟨_, _, frz_new ha, k ns' h1 h2⟩)
theorem rm_splitF {a b : Str} (hb : (b.length == 0) = false) (hl : a.length + 2 ≤ sizeLine) (k : K (dL ((Txt.split a b).map dS)) cs) : RMW rSplit (dS a) [dS b] cs K := rmw_frz (rm_split hb hl fun p hp => ⟨_, _, frz_new hp, k⟩)
theorem r2_addLF (h1 : IsL cs x ts) (h2 : IsL cs y us) (hl : ts.length + us.length ≤ sizeLine) (k : K (dL (ts ++ us)) cs) : R2W (rAddA Kf) x y cs K := r2w_frz (r2_addL h1 h2 hl fun a ha => ⟨_, _, frz_new ha, k⟩)
end
end S
namespace S
open PySem PySem.Spec PyProof.Rows L2
section
variable {Z : Zx} {ds : Ds} {cs : CS} {K : Ty → CS → Prop} {t : TA} {g : Sg} {E : XK} {ke : DK} {C : Addr}
theorem w_callN (h : WA (ZE E ke) t ds cs fun ts cs1 => g ts cs1 K ke) : W (ZE E ke) (tCall (toSp g) [] E t) ds cs K := w_call (dts := []) (fun _ => .nil) (by simpa only [List.append_nil] using h)
theorem w_callN0 (h : WA Z t ds cs fun ts cs1 => g ts cs1 K fun _ _ => False) : W Z (tCall (toSp g) [] E0 t) ds cs K := w_call0 (dts := []) (fun _ => .nil) (by simpa only [List.append_nil] using h)
theorem w_makeN0 (h : WA Z t ds cs fun ts cs1 => ∀ x, cs1 x = none → g (dR x :: ts) (cs1.set x (.ins C [])) (fun r cs2 => r = dN ∧ K (dR x) cs2) fun _ _ => False) : W Z (tMake C (toSp g) [] E0 t) ds cs K := w_make0 (dts := []) (fun _ => .nil) (by simpa only [List.append_nil] using h)
/-- C(..), made and frozen -/
theorem w_makeF {fs : List (Str × Ty)} (h : WA Z t ds cs fun ts cs1 => K (dO C fs) cs1 ∧ ∀ x, cs1 x = none → ∀ kk : Ty → CS → Prop, kk dN (cs1.set x (.ins C fs)) → g (dR x :: ts) (cs1.set x (.ins C [])) kk fun _ _ => False) : W Z (tMake C (toSp g) [] E0 t) ds cs K :=
  w_frz (w_makeN0 fun σ H F sl c z Q q => h σ H F sl c z Q fun ts cs1 vs H1 F1 k e c1 r => q ts cs1 vs H1 F1 (fun x hx => k.2 x hx _ ⟨rfl, _, _, frz_newO hx, k.1⟩) e c1 r)
end
end S
namespace S
open PySem PySem.Spec PyProof.Rows
theorem atI_map {α : Type} {f : α → Ty} {xs : List α} {i : Int} (h : 0 ≤ i) (hl : i.toNat < xs.length) : L2.atI (xs.map f) i = some (f xs[i.toNat]) := by
  have e : ((i.toNat : Nat) : Int) = i := by omega
  have q : L2.atI (xs.map f) ((i.toNat : Nat) : Int) = some (f xs[i.toNat]) := L2.atI_nat (by simp [hl])
  rw [e] at q
  exact q
theorem atI_z {ts : List Ty} {j : Nat} {t : Ty} (h : ts[j]? = some t) : L2.atI ts (0 + (j : Int)) = some t := by
  rw [Int.zero_add]
  exact L2.atI_nat h
theorem decT {p : Prop} [Decidable p] (h : p) : decide p = true := decide_eq_true h
theorem isL_new {cs : CS} {x : Ty} {ts : List Ty} {a : Addr} {c : Cell} (h : IsL cs x ts) (ha : cs a = none) : IsL (cs.set a c) x ts := by
  cases h with
  | fz => exact .fz
  | @cl b _ q => exact .cl (by rw [CS.ne (CS.ne_of q ha)]; exact q)
theorem isQ_new {cs : CS} {x : Ty} {ts : List Ty} {a : Addr} {c : Cell} (h : IsQ cs x ts) (ha : cs a = none) : IsQ (cs.set a c) x ts := by
  cases h with
  | fz => exact .fz
  | tp => exact .tp
  | sc => exact .sc
  | @cl b _ q => exact .cl (by rw [CS.ne (CS.ne_of q ha)]; exact q)
theorem CS.del_ne {cs : CS} {a b : Addr} (h : b ≠ a) : cs.del a b = cs b := if_neg h
theorem perm_erase {O L : List Int} {j : Nat} (h : j < L.length) : (O ++ [L[j]] ++ L.eraseIdx j).Perm (O ++ L) := by
  rw [List.append_assoc]
  refine List.Perm.append_left O ?_
  show (L[j] :: L.eraseIdx j).Perm L
  have e : L = L.take j ++ L[j] :: L.drop (j + 1) := by simp
  rw [List.eraseIdx_eq_take_drop_succ]
  exact List.perm_middle.symm.trans (by rw [← e])
theorem less1 {cs cs' : CS} {a D : Addr} {c0 : Cell} (ha : cs' a = some c0) (hD : cs D = none) (hn : a ≠ D) (h : ∀ b, b ≠ a → b ≠ D → cs' b = cs b) : ∀ b c, (cs.set a c0) b = some c → (cs'.del D) b = some c := fun b c q => by
  by_cases e1 : b = a
  · subst e1
    rw [CS.same] at q
    rw [CS.del_ne hn, ha]; exact q
  · rw [CS.ne e1] at q
    have e3 : b ≠ D := CS.ne_of q hD
    rw [CS.del_ne e3, h b e1 e3]
    exact q
def rangeI (n : Nat) : List Int := (List.range n).map fun (k : Nat) => (k : Int)
theorem rngT_ints (n : Nat) : rngT 0 n = (rangeI n).map dI := by
  unfold rngT rangeI
  rw [List.map_map]
  refine List.map_congr_left fun k _ => ?_
  show dI (0 + (k : Int)) = dI (k : Int)
  rw [Int.zero_add]
theorem rangeI_nodup (n : Nat) : (rangeI n).Nodup := by
  unfold rangeI
  exact List.Pairwise.map _ (fun a b h => by omega) List.nodup_range
theorem mem_rangeI {n : Nat} {z : Int} : z ∈ rangeI n ↔ 0 ≤ z ∧ z < n := by
  unfold rangeI
  simp only [List.mem_map, List.mem_range]
  constructor
  · rintro ⟨k, hk, rfl⟩; omega
  · rintro ⟨h1, h2⟩; exact ⟨z.toNat, by omega, by omega⟩
theorem rangeI_len (n : Nat) : (rangeI n).length = n := by simp [rangeI]
section
open L2
variable {Z : Zx} {ds : Ds} {cs : CS} {K : Ty → CS → Prop} {te : TE}
theorem w_listRF (h : W Z te ds cs fun x cs1 => ∃ n : Nat, x = dI (n : Int) ∧ n ≤ 16777216 ∧ K (dL ((rangeI n).map dI)) cs1) : W Z (tLstRg (tRg1 te)) ds cs K := w_frz (w_listR1 (w_mono h fun x cs1 ⟨n, e, hn, k⟩ => ⟨n, e, hn, fun a ha => ⟨_, _, by rw [rngT_ints]; exact frz_new ha, k⟩⟩))
theorem cut_take {α : Type} {xs : List α} {i : Int} (h : 0 ≤ i) : (xs.drop (HT.sIx xs.length 0 none)).take (HT.sIx xs.length xs.length (some i) - HT.sIx xs.length 0 none) = xs.take i.toNat := by
  have e : i = ((i.toNat : Nat) : Int) := by omega
  rw [e, HT.sIx_nat]
  show (xs.drop 0).take (min _ _ - 0) = _
  rw [List.drop_zero, Nat.sub_zero, Int.toNat_natCast]
  by_cases h : i.toNat ≤ xs.length
  · rw [Nat.min_eq_left h]
  · rw [Nat.min_eq_right (by omega), List.take_length, List.take_of_length_le (by omega)]
theorem cutT_take {xs : List Ty} {i : Int} (h : 0 ≤ i) : cutT xs none (some i) = xs.take i.toNat := cut_take h
theorem rsw_frz {r : V → Option Int → Option Int → Hp → VK → Prop} {x : Ty} {lo hi : Option Int} (h : RSW r x lo hi cs fun x cs1 => ∃ y cs2, FrzR cs1 x y cs2 ∧ K y cs2) : RSW r x lo hi cs K := fun v H F r1 c Q q => h v H F r1 c Q (post_frz q)
theorem rs_takeF {Kf : PySem.W.Frag} {x : Ty} {ts : List Ty} {i : Int} (h : IsL cs x ts) (hi : 0 ≤ i) (k : K (dL (ts.take i.toNat)) cs) : RSW (rSlA Kf) x none (some i) cs K := rsw_frz (rs_list h fun a ha => ⟨_, _, by rw [cutT_take hi]; exact frz_new ha, k⟩)
end
section
open L2
variable {Z : Zx} {cs : CS} {K : Ty → CS → Prop} {te : TE} {g : TG} {dw : Ds} {cs1 : CS} {x : Ty} {st : CS → Prop}
theorem lck_map {n : Nat} {item : Nat → Ty → Prop} (el : Nat → Ty) (hx : ∀ D acc, cs1 D = none → st (cs1.set D (.lst acc))) (hl : n < sizeLine)
    (turn : ∀ i t cs2, i < n → item i t → (∀ b c, cs1 b = some c → cs2 b = some c) → WG Z g t dw cs2 fun ds2 cs3 => W Z te ds2 cs3 fun y cs4 => cs4 = cs2 ∧ y = el i) (k : K (dL ((List.range n).map el)) cs1) :
    LcK Z g tYes te dw cs1 n item x st fun x cs2 => ∃ y cs3, FrzR cs2 x y cs3 ∧ K y cs3 := by
  refine ⟨fun D i acc cs' => cs' = cs1.set D (.lst acc) ∧ acc = (List.range i).map el, fun D hD => ⟨⟨rfl, rfl⟩, fun _ _ _ h => by rw [h.1]; exact hx D _ hD, fun i t acc cs' hi ht _ h => ?_, fun acc cs' _ h => ?_⟩⟩
  · obtain ⟨rfl, ha⟩ := h
    have q := turn i t (cs1.set D (.lst acc)) hi ht (fun b c hb => by rw [CS.ne (CS.ne_of hb hD)]; exact hb)
    intro v σ H F r sl c z Q hQ
    refine q v σ H F r sl c z Q fun ds2 cs3 σ2 H2 F2 k2 e2 s2 c2 => hQ ds2 cs3 σ2 H2 F2 (wt_yes ?_) e2 s2 c2
    rw [if_pos rfl]
    refine w_mono k2 fun y cs4 h4 => ?_
    obtain ⟨rfl, rfl⟩ := h4
    refine ⟨CS.same, ?_, CS.set_set, ?_⟩
    · rw [ha, List.length_map, List.length_range]; exact Nat.lt_trans hi hl
    · rw [ha, List.range_succ, List.map_append]; rfl
  · obtain ⟨rfl, rfl⟩ := h
    exact ⟨_, _, frz_new hD, k⟩
theorem lck_mapL {α : Type} {l : List α} {f : α → Ty} (el : α → Ty) (hx : ∀ D acc, cs1 D = none → st (cs1.set D (.lst acc))) (hl : l.length < sizeLine)
    (turn : ∀ a cs2, a ∈ l → (∀ b c, cs1 b = some c → cs2 b = some c) → WG Z g (f a) dw cs2 fun ds2 cs3 => W Z te ds2 cs3 fun y cs4 => cs4 = cs2 ∧ y = el a) (k : K (dL (l.map el)) cs1) :
    LcK Z g tYes te dw cs1 (l.map f).length (fun i t => (l.map f)[i]? = some t) x st fun x cs2 => ∃ y cs3, FrzR cs2 x y cs3 ∧ K y cs3 := by
  refine lck_map (fun i => ((l.map el)[i]?).getD dN) hx (by rw [List.length_map]; exact hl) (fun i t cs2 hi ht hb => ?_) ?_
  · rw [List.length_map] at hi
    rw [List.getElem?_map, List.getElem?_eq_getElem hi] at ht
    cases ht
    have q := turn l[i] cs2 (List.getElem_mem hi) hb
    rw [List.getElem?_map, List.getElem?_eq_getElem hi]
    exact q
  · have e : (List.range (l.map f).length).map (fun i => ((l.map el)[i]?).getD dN) = l.map el := by
      rw [List.length_map]
      refine List.ext_getElem (by simp) fun i h1 h2 => ?_
      simp at h1 h2
      simp [h1]
    rw [e]
    exact k
end
section
open L2
variable {Z : Zx} {ds : Ds} {cs : CS} {Kf : PySem.W.Frag} {te ta : TE} {f : Str} {E : DE} {Kc : CS → Prop}
def FldS (Kf : PySem.W.Frag) (o y : Ty) (f : Str) (cs : CS) (Kc : CS → Prop) : Prop := ∃ a C fs, o = dR a ∧ cs a = some (.ins C fs) ∧ Cls Kf C ∧ NoAttr Kf C f ∧ fs.length < 1000 ∧ Kc (cs.set a (.ins C (putT f y fs)))
theorem fldS {a C : Addr} {fs : List (Str × Ty)} {y : Ty} [hc : ClsI Kf C] [hn : NoA Kf C f] (h : cs a = some (.ins C fs)) (hl : fs.length < 1000) (k : Kc (cs.set a (.ins C (putT f y fs)))) : FldS Kf (dR a) y f cs Kc := ⟨a, C, fs, rfl, h, hc.h, hn.h, hl, k⟩
theorem fldE {a C : Addr} {fs : List (Str × Ty)} {y : Ty} (h : cs a = some (.ins C fs)) (hl : fs.length < 1000) (hc : ClsI Kf C) (hn : NoA Kf C f) (k : Kc (cs.set a (.ins C (putT f y fs)))) : FldS Kf (dR a) y f cs Kc := fldS h hl k
theorem fwE {K : Ty → CS → Prop} {x t : Ty} {C : Addr} {fs : List (Str × Ty)} (h : IsO cs x C fs) (hl : fs.lookup f = some t) (hc : ClsI Kf C) (hn : NoA Kf C f) (k : K t cs) : FldW Kf f x cs K := fw h hl k
theorem ws_fldS (h : W Z te ds cs fun y cs1 => W Z ta ds cs1 fun x cs2 => FldS Kf x y f cs2 (E.nx ds)) : WS Z (sFld Kf ta te f) E ds cs := fun σ H F D sl c z q =>
  h σ H F sl c z _ fun y cs1 v1 H1 F1 k1 e1 c1 r1 => k1 σ H1 F1 (sl.up e1) c1 (z.up e1) _ fun x cs2 v2 H2 F2 k2 e2 c2 r2 => by
    obtain ⟨a, C, fs, rfl, hq, hc, hn, hl, k⟩ := k2
    obtain rfl : v2 = .ref a := r2
    obtain ⟨dx, fvs, ha, kf⟩ := c2.ins hq
    exact ⟨a, C, dx, fvs, rfl, ha, hc, hn, by rw [kf.length]; exact hl, q.nx _ _ _ _ F2 k (e1.trans e2) (sl.up (e1.trans e2)) (c2.put hq ⟨dx, _, upd_same, kf.put (y.up e2 r1)⟩)⟩
/-- a constant of the object's class -/
def ConW (Kf : PySem.W.Frag) (f : Str) (x : Ty) (cs : CS) (K : Ty → CS → Prop) : Prop := ∃ C fs t v u, IsO cs x C fs ∧ Cls Kf C ∧ Con Kf C f v u ∧ fs.lookup f = none ∧ (∀ F, Ty.p t v F) ∧ K t cs
end
theorem isS_of {cs : CS} {x : Ty} {ts : List Ty} (h : IsL cs x ts) : IsS cs x ts := by
  cases h with
  | fz => exact .fz
  | cl q => exact .cl q
section
open L2
variable {Z : Zx} {ds : Ds} {cs : CS} {Kf : PySem.W.Frag} {te : TE} {E : DE} {tb : TS} {g : TG}
/-- a loop that changes nothing but some slots: D holds of the slots -/
theorem ws_forLp (D : Ds → Prop) {x : Ty} {ts : List Ty} (hx : IsS cs x ts) (h : W Z te ds cs fun y cs1 => y = x ∧ cs1 = cs) (d0 : D ds) (turn : ∀ t, t ∈ ts → ∀ ds' : Ds, D ds' → WG Z g t ds' cs fun ds2 cs2 => WS Z tb { E with nx := fun ds3 cs3 => D ds3 ∧ cs3 = cs, ct := fun ds3 cs3 => D ds3 ∧ cs3 = cs, bk := E.nx } ds2 cs2)
    (k : ∀ ds', D ds' → E.nx ds' cs) : WS Z (tFor (iSeq Kf te) g tb) E ds cs :=
  ws_forL (w_mono h fun y cs1 ⟨e1, e2⟩ => by
    subst e1 e2
    exact ⟨ts, hx, fun _ ds' cs' => D ds' ∧ cs' = _, ⟨d0, rfl⟩, fun _ _ _ h => by rw [h.2]; exact hx, fun i t ds' cs' ht ⟨ho, hc⟩ => by subst hc; exact turn t (List.mem_of_getElem? ht) ds' ho, fun ds' cs' ⟨ho, hc⟩ => by subst hc; exact k ds' ho⟩)
theorem ws_forTp (D : Ds → Prop) {ts : List Ty} (h : W Z te ds cs fun y cs1 => y = dT ts ∧ cs1 = cs) (d0 : D ds) (turn : ∀ t, t ∈ ts → ∀ ds' : Ds, D ds' → WG Z g t ds' cs fun ds2 cs2 => WS Z tb { E with nx := fun ds3 cs3 => D ds3 ∧ cs3 = cs, ct := fun ds3 cs3 => D ds3 ∧ cs3 = cs, bk := E.nx } ds2 cs2)
    (k : ∀ ds', D ds' → E.nx ds' cs) : WS Z (tFor (iSeq Kf te) g tb) E ds cs :=
  ws_forT (w_mono h fun y cs1 ⟨e1, e2⟩ => by
    subst e1 e2
    exact ⟨ts, rfl, fun _ ds' cs' => D ds' ∧ cs' = _, ⟨d0, rfl⟩, fun i t ds' cs' ht ⟨ho, hc⟩ => by subst hc; exact turn t (List.mem_of_getElem? ht) ds' ho, fun ds' cs' ⟨ho, hc⟩ => by subst hc; exact k ds' ho⟩)
theorem isL_ins {x : Ty} {ts : List Ty} {a C : Addr} {fs : List (Str × Ty)} {c : Cell} (h : IsL cs x ts) (ha : cs a = some (.ins C fs)) : IsL (cs.set a c) x ts := by
  cases h with
  | fz => exact .fz
  | @cl b _ q => exact .cl (by
      rw [CS.ne (fun e => by subst e; rw [ha] at q; cases q)]; exact q)
end
/-- the script -/
def dKs (Kf : PySem.W.Frag) (ts : List Ty) : Ty := ⟨fun v F => ∃ a vs, v = .ref a ∧ L2.SqL Kf F a vs ∧ Tys F vs ts, fun e ⟨a, vs, h1, h2, h3⟩ => ⟨a, vs, h1, L2.Same.seq e h2, h3.up e⟩⟩
theorem rl_listKF {cs : CS} {K : Ty → CS → Prop} {Kf : PySem.W.Frag} {ts : List Ty} (k : K (dL ts) cs) : RLW (rListA Kf) [dKs Kf ts] cs K := rlw_frz (fun vs H F rs c Q q => by
  cases rs with
  | cons r r' =>
    cases r'
    obtain ⟨p, ws, rfl, hs, kt⟩ := r
    exact ⟨p, ws, rfl, .inl (L2.Same.seq c.sub hs), fun l hl => q _ _ _ _ F ⟨_, _, frz_new (c.freeC hl), k⟩ (L2.Same.refl F) (c.new hl ⟨_, L2.upd_same, kt⟩) rfl⟩)
end S

set_option Elab.async false
set_option linter.all false
set_option maxRecDepth 100000
set_option maxHeartbeats 2000000
set_option autoImplicit false
/-! Lists of ints compared; texts of ints. -/
namespace S
open PySem PySem.Spec PyProof.Rows L2
theorem lay_ints : ∀ ns : List Int, PyData.canLayAll0 (ns.map PyData.int) = true
  | [] => by simp [PyData.canLayAll0]
  | n :: ns => by simp [PyData.canLayAll0, PyData.canLay0, lay_ints ns]
theorem depth_ints : ∀ ns : List Int, PyData.depthAll (ns.map PyData.int) = 0
  | [] => by simp [PyData.depthAll]
  | n :: ns => by simp [PyData.depthAll, PyData.depth, depth_ints ns]
theorem shaped_intsT (ns : List Int) : SeqAt.shaped (.tuple (ns.map PyData.int)) = true := by
  simp [SeqAt.shaped, PyData.canLay0, PyData.depth, lay_ints, depth_ints]
theorem shaped_intsL (ns : List Int) : SeqAt.shaped (.list (ns.map PyData.int)) = true := by
  simp [SeqAt.shaped, PyData.canLay0, PyData.depth, lay_ints, depth_ints]
theorem eqv_intsT (a b : List Int) : PyData.eqv (.tuple (a.map .int)) (.tuple (b.map .int)) = decide (a = b) := by
  rw [PyData.eqv]; exact PySem.W.ked_eqvAll a b
theorem eqv_intsL (a b : List Int) : PyData.eqv (.list (a.map .int)) (.list (b.map .int)) = decide (a = b) := by
  rw [PyData.eqv]; exact PySem.W.ked_eqvAll a b
section
variable {Z : Zx} {ds : Ds} {cs : CS} {K : Ty → CS → Prop} {Kf : PySem.W.Frag} {x y : Ty} {a b : List Int}
theorem r2_eqIT (k : K (dB (decide (a = b))) cs) : R2W (rEqA Kf) (dT (a.map dI)) (dT (b.map dI)) cs K := r2_eqD IsD.intsT IsD.intsT (shaped_intsT a) (shaped_intsT b) (by rw [eqv_intsT]; exact k)
theorem r2_neIT (k : K (dB (!decide (a = b))) cs) : R2W (rNeA Kf) (dT (a.map dI)) (dT (b.map dI)) cs K := r2_neD IsD.intsT IsD.intsT (shaped_intsT a) (shaped_intsT b) (by rw [eqv_intsT]; exact k)
theorem r2_eqIL (h1 : IsL cs x (a.map dI)) (h2 : IsL cs y (b.map dI)) (k : K (dB (decide (a = b))) cs) : R2W (rEqA Kf) x y cs K := r2_eqD (.intsL h1) (.intsL h2) (shaped_intsL a) (shaped_intsL b) (by rw [eqv_intsL]; exact k)
theorem r2_neIL (h1 : IsL cs x (a.map dI)) (h2 : IsL cs y (b.map dI)) (k : K (dB (!decide (a = b))) cs) : R2W (rNeA Kf) x y cs K := r2_neD (.intsL h1) (.intsL h2) (shaped_intsL a) (shaped_intsL b) (by rw [eqv_intsL]; exact k)
end
/-! ### texts -/
abbrev txI (i : Int) : Str := Str.ofString (toString i)
theorem txI_tl {i : Int} (h : 0 ≤ i) : TL.tl (txI i) = TL.numL i.toNat := by
  have e : i = ((i.toNat : Nat) : Int) := by omega
  rw [e]; exact TL.tl_num _
theorem txI_len {i : Int} {k : Nat} (h : 0 ≤ i) (hk : 0 < k) (hi : i < 10 ^ k) : (txI i).length ≤ k := by
  rw [TL.len_tl, txI_tl h]
  refine TL.numL_len hk ?_
  have e : ((i.toNat : Nat) : Int) = i := by omega
  exact Int.ofNat_lt.mp (by rw [e]; push_cast; exact hi)
theorem log_small {i : Int} (h : 0 ≤ i) (hi : i < 1000000000000) : i.natAbs.log2 < 1920 := Nat.lt_trans (lg_lt (k := 64) (by omega) (by decide)) (by decide)
theorem sum_le {α : Type} (f : α → Nat) (k : Nat) : ∀ l : List α, (∀ a ∈ l, f a ≤ k) → (l.map f).sum ≤ l.length * k
  | [], _ => by simp
  | a :: l, h => by
    have h1 := h a List.mem_cons_self
    have h2 := sum_le f k l fun b hb => h b (List.mem_cons_of_mem _ hb)
    simp only [List.map_cons, List.sum_cons, List.length_cons, Nat.succ_mul]
    omega
section
variable {Z : Zx} {ds : Ds} {cs : CS} {K : Ty → CS → Prop} {Kf : PySem.W.Frag} {te : TE} {j : Nat} {sep : Str} {l : List Int}
theorem lck_ints {cs1 : CS} {x : Ty} {st : CS → Prop} {K' : Ty → CS → Prop} {ds : Ds} (hj : j < ds.length) (hx : ∀ D acc, cs1 D = none → st (cs1.set D (.lst acc))) (hl : l.length ≤ 1000) (hr : ∀ z ∈ l, 0 ≤ z ∧ z < 1000000000000) (k : K' (dL ((l.map txI).map dS)) cs1) :
    LcK Z (gName j) tYes (tCB rStrI (tCons (tVar j) tNil)) ds cs1 (l.map dI).length (fun i t => (l.map dI)[i]? = some t) x st fun x cs2 => ∃ y cs3, FrzR cs2 x y cs3 ∧ K' y cs3 := by
  refine lck_mapL (fun z => dS (txI z)) hx (Nat.lt_of_le_of_lt hl (by decide)) (fun z cs2 hz hb => ?_) (by rw [List.map_map] at k; exact k)
  refine wg_name (w_cb (wa_cons (w_var (by rw [List.getElem?_set_self hj]) (wa_nil ?_))))
  exact rl_strI (log_small (hr z hz).1 (hr z hz).2) ⟨rfl, rfl⟩
theorem join_bound {ys : List Str} {sep : Str} (h1 : ys.length ≤ 1000) (h2 : ∀ y ∈ ys, y.length ≤ 1000) (h3 : sep.length ≤ 10) : (ys.map (·.length)).sum + ys.length * sep.length ≤ 16777216 := by
  have := sum_le (fun y : Str => y.length) 1000 ys h2
  have : ys.length * sep.length ≤ 1000 * 10 := Nat.mul_le_mul h1 h3
  have : ys.length * 1000 ≤ 1000 * 1000 := Nat.mul_le_mul_right _ h1
  omega
theorem txI_short {z : Int} (h : 0 ≤ z ∧ z < 1000000000000) : (txI z).length ≤ 1000 := Nat.le_trans (txI_len (k := 12) h.1 (by decide) (by have := h.2; simpa using this)) (by decide)
/-- sep.join([str(z) for z in l]) -/
theorem w_joinT (hj : j < ds.length) (hs : sep.length ≤ 10) (hl : l.length ≤ 1000) (hr : ∀ z ∈ l, 0 ≤ z ∧ z < 1000000000000) (h : W Z te ds cs fun x cs1 => x = dT (l.map dI) ∧ K (dS (Txt.join sep (l.map txI))) cs1) :
    W Z (tM1 (rJoin Kf) (tC (.str sep)) (tLc (iSeq Kf te) (gName j) tYes (tCB rStrI (tCons (tVar j) tNil)) [j])) ds cs K := by
  refine w_m1 (w_str ⟨sep, rfl, w_frz (w_lcT (gonly_name (by simp)) (w_mono h fun x cs1 ⟨e, k⟩ => ⟨_, e, ?_⟩))⟩)
  refine lck_ints (by simpa [wipeD] using hj) (fun _ _ _ => True.intro) hl hr ?_
  refine rm_join .fz (join_bound (by simpa using hl) (fun y hy => ?_) hs) k
  obtain ⟨z, hz, rfl⟩ := List.mem_map.mp hy
  exact txI_short (hr z hz)
theorem w_joinL (hj : j < ds.length) (hs : sep.length ≤ 10) (hl : l.length ≤ 1000) (hr : ∀ z ∈ l, 0 ≤ z ∧ z < 1000000000000) (h : W Z te ds cs fun x cs1 => x = dL (l.map dI) ∧ K (dS (Txt.join sep (l.map txI))) cs1) :
    W Z (tM1 (rJoin Kf) (tC (.str sep)) (tLc (iSeq Kf te) (gName j) tYes (tCB rStrI (tCons (tVar j) tNil)) [j])) ds cs K := by
  refine w_m1 (w_str ⟨sep, rfl, w_frz (w_lcL (gonly_name (by simp)) (w_mono h fun x cs1 ⟨e, k⟩ => ⟨l.map dI, e ▸ .fz, ?_⟩))⟩)
  refine lck_ints (by simpa [wipeD] using hj) (fun _ _ _ => e ▸ .fz) hl hr ?_
  refine rm_join .fz (join_bound (by simpa using hl) (fun y hy => ?_) hs) k
  obtain ⟨z, hz, rfl⟩ := List.mem_map.mp hy
  exact txI_short (hr z hz)
end
end S

set_option Elab.async false
set_option linter.all false
set_option maxRecDepth 100000
set_option maxHeartbeats 2000000
set_option autoImplicit false
/-! A law's end: over the facts, the script's bits told. -/
namespace S
open PySem PySem.Spec PyProof.Rows L2
def SmallS (ns : List Int) : Prop := (∀ z ∈ ns, z.natAbs.log2 ≤ 1048576) ∧ ns.length ≤ 63
theorem walk_S {l : PySem.W.OpenLaw} {k : Nat} {q : Program} {loose : List Str} {XP : (Str → Option Value) → Heap → Prop} {YP : World → Heap → Prop} {d : DefRec} {x : Str} (hn : l.most = some 63) (hdf : d.params.defaults = []) (hr : Room k callerA)
    (F : ∀ (w : World) (mg : Str → Option Value) (fa : Addr) (h : Heap), YP w h → h.Ns mainGlobals mg → mg d.name = some (.ref fa) →
      ∃ (K : PySem.W.Frag) (fd : FuncData) (g : Sg), K.In h ∧ (∀ (s : Shared) (u : Value), BindsTo s fd ⟨[u], []⟩ [(x, u)]) ∧
        (∀ (ns : List Int) (cs : CS), SmallS ns → g [dKs K (ns.map dI)] cs (fun t _ => t = dB true) fun _ _ => False) ∧
        ∀ base : Heap, K.In base → base.Ns mainGlobals mg → FnOk l.prog w K mg base (L2.CX l.prog w) k fa fd [x] (toSp g)) :
    PySem.W.WalkO q loose XP YP l.row.toRowW d [] (fun f vs => PySem.call f vs) := by
  refine Att.attach_callB hn hdf fun w s₀ s₁ mg mb fa o pm cd doc a vs ns G Y ho hd hcd hmg hobj hints hlen hbits hg => ?_
  obtain ⟨K, fd, g, KX, hb, hsp, hF⟩ := F w mg fa _ Y G.T.g hmg
  refine law_call KX G.T.g G.T.b G.T.builtins G.T.nolimit hg hobj hints (Nat.le_trans hlen (by decide)) hr hF hb (fun H hO hS => ?_) fun H e s' hc => ?_
  · have hs : SmallS ns := ⟨fun z hz => by
      have h := hbits z hz
      unfold Builtin.Int.intBits at h
      split at h
      · rename_i e
        have e2 : z = 0 := by simpa using e
        subst e2
        decide
      · omega, hlen⟩
    exact ⟨H, [dKs K (ns.map dI)], _, _, _, .one ⟨a, ns.map V.int, rfl, hS, Tys.ofInts ns⟩, Cs.none H, hsp ns _ hs, fun t cs' v H' F' kk e c r => by
      subst kk
      exact r, fun e cs' cls d H' F' kk => kk.elim⟩
  · obtain ⟨_, _, _, _, _, _, _, _, _, _, _, _, z⟩ := hc
    exact z
end S

set_option Elab.async false
set_option linter.all false
set_option maxRecDepth 100000
set_option maxHeartbeats 4000000
set_option autoImplicit false
namespace K63
open PySem PySem.Spec PyProof.Rows L2 S
abbrev PP : Program := (PySem.W.OpenLaw.row PySem.Challenge.rw_lotsintrees_k63_whole_texts_read_back).prog
def top (i : Nat) : Stmt := PySem.Challenge.pw_lotsintrees_k63_whole_texts_read_back.main.body.getD i (.Pass ⟨0, 0, 0, 0⟩)
def inClass (s : Stmt) (j : Nat) : Stmt := match s with
  | .ClassDef _ _ _ b _ _ _ _ _ _ _ => b.getD j (.Pass ⟨0, 0, 0, 0⟩)
  | _ => .Pass ⟨0, 0, 0, 0⟩
abbrev s_all_different : Stmt := top 11
abbrev N_all_different : List Str := ["places", "index"]
theorem sc_all_different : FnScope N_all_different ["places"] (defScope s_all_different) := ⟨rfl, rfl, rfl, by decide +kernel, rfl, by decide +kernel, by decide +kernel⟩
abbrev at_all_different (K : PySem.W.Frag) : Addr := He.ga K "all_different"
abbrev s_Lot_init : Stmt := inClass (top 12) 0
abbrev N_Lot_init : List Str := ["self", "members", "candidates", "price", "place"]
theorem sc_Lot_init : FnScope N_Lot_init ["self", "members", "candidates", "price"] (defScope s_Lot_init) := ⟨rfl, rfl, rfl, by decide +kernel, rfl, by decide +kernel, by decide +kernel⟩
abbrev at_Lot_init (K : PySem.W.Frag) : Addr := He.ma K (He.ga K "Lot") "__init__"
abbrev s_check_place : Stmt := top 19
abbrev N_check_place : List Str := ["size", "place"]
theorem sc_check_place : FnScope N_check_place ["size", "place"] (defScope s_check_place) := ⟨rfl, rfl, rfl, by decide +kernel, rfl, by decide +kernel, by decide +kernel⟩
abbrev at_check_place (K : PySem.W.Frag) : Addr := He.ga K "check_place"
abbrev s_check_size : Stmt := top 20
abbrev N_check_size : List Str := ["size"]
theorem sc_check_size : FnScope N_check_size ["size"] (defScope s_check_size) := ⟨rfl, rfl, rfl, by decide +kernel, rfl, by decide +kernel, by decide +kernel⟩
abbrev at_check_size (K : PySem.W.Frag) : Addr := He.ga K "check_size"
abbrev s_Network_init : Stmt := inClass (top 21) 0
abbrev N_Network_init : List Str := ["self", "size", "lots", "lot", "place"]
theorem sc_Network_init : FnScope N_Network_init ["self", "size", "lots"] (defScope s_Network_init) := ⟨rfl, rfl, rfl, by decide +kernel, rfl, by decide +kernel, by decide +kernel⟩
abbrev at_Network_init (K : PySem.W.Frag) : Addr := He.ma K (He.ga K "Network") "__init__"
abbrev s_Demand_init : Stmt := inClass (top 24) 0
abbrev N_Demand_init : List Str := ["self", "root", "count", "mode"]
theorem sc_Demand_init : FnScope N_Demand_init ["self", "root", "count", "mode"] (defScope s_Demand_init) := ⟨rfl, rfl, rfl, by decide +kernel, rfl, by decide +kernel, by decide +kernel⟩
abbrev at_Demand_init (K : PySem.W.Frag) : Addr := He.ma K (He.ga K "Demand") "__init__"
abbrev s_number_in : Stmt := top 28
abbrev N_number_in : List Str := ["word", "least", "most", "sign", "number"]
theorem sc_number_in : FnScope N_number_in ["word", "least", "most"] (defScope s_number_in) := ⟨rfl, rfl, rfl, by decide +kernel, rfl, by decide +kernel, by decide +kernel⟩
abbrev at_number_in (K : PySem.W.Frag) : Addr := He.ga K "number_in"
abbrev s_Lot_str : Stmt := inClass (top 12) 14
abbrev N_Lot_str : List Str := ["self", "parts", "place"]
theorem sc_Lot_str : FnScope N_Lot_str ["self"] (defScope s_Lot_str) := ⟨rfl, rfl, rfl, by decide +kernel, rfl, by decide +kernel, by decide +kernel⟩
abbrev at_Lot_str (K : PySem.W.Frag) : Addr := He.ma K (He.ga K "Lot") "__str__"
abbrev s_write_network : Stmt := top 29
abbrev N_write_network : List Str := ["network", "demand", "lines", "lot"]
theorem sc_write_network : FnScope N_write_network ["network", "demand"] (defScope s_write_network) := ⟨rfl, rfl, rfl, by decide +kernel, rfl, by decide +kernel, by decide +kernel⟩
abbrev at_write_network (K : PySem.W.Frag) : Addr := He.ga K "write_network"
abbrev s_named_number : Stmt := top 30
abbrev N_named_number : List Str := ["lines", "index", "name", "least", "most", "words", "number"]
theorem sc_named_number : FnScope N_named_number ["lines", "index", "name", "least", "most"] (defScope s_named_number) := ⟨rfl, rfl, rfl, by decide +kernel, rfl, by decide +kernel, by decide +kernel⟩
abbrev at_named_number (K : PySem.W.Frag) : Addr := He.ga K "named_number"
abbrev s_mode_in : Stmt := top 31
abbrev N_mode_in : List Str := ["lines", "index"]
theorem sc_mode_in : FnScope N_mode_in ["lines", "index"] (defScope s_mode_in) := ⟨rfl, rfl, rfl, by decide +kernel, rfl, by decide +kernel, by decide +kernel⟩
abbrev at_mode_in (K : PySem.W.Frag) : Addr := He.ga K "mode_in"
abbrev s_leading_places : Stmt := top 32
abbrev N_leading_places : List Str := ["words", "index", "places"]
theorem sc_leading_places : FnScope N_leading_places ["words", "index"] (defScope s_leading_places) := ⟨rfl, rfl, rfl, by decide +kernel, rfl, by decide +kernel, by decide +kernel⟩
abbrev at_leading_places (K : PySem.W.Frag) : Addr := He.ga K "leading_places"
abbrev s_lot_in : Stmt := top 33
abbrev N_lot_in : List Str := ["line", "size", "number", "words", "members", "index", "candidates", "price", "lot"]
theorem sc_lot_in : FnScope N_lot_in ["line", "size", "number"] (defScope s_lot_in) := ⟨rfl, rfl, rfl, by decide +kernel, rfl, by decide +kernel, by decide +kernel⟩
abbrev at_lot_in (K : PySem.W.Frag) : Addr := He.ga K "lot_in"
abbrev s_read_network : Stmt := top 34
abbrev N_read_network : List Str := ["text", "lines", "size", "root", "count", "mode", "lots", "index"]
theorem sc_read_network : FnScope N_read_network ["text"] (defScope s_read_network) := ⟨rfl, rfl, rfl, by decide +kernel, rfl, by decide +kernel, by decide +kernel⟩
abbrev at_read_network (K : PySem.W.Frag) : Addr := He.ga K "read_network"
abbrev s_law_source : Stmt := top 36
abbrev N_law_source : List Str := ["script"]
theorem sc_law_source : FnScope N_law_source ["script"] (defScope s_law_source) := ⟨rfl, rfl, rfl, by decide +kernel, rfl, by decide +kernel, by decide +kernel⟩
abbrev at_law_source (K : PySem.W.Frag) : Addr := He.ga K "_law_source"
abbrev s_law_mixed : Stmt := top 37
abbrev N_law_mixed : List Str := ["cell", "turn", "first", "second"]
theorem sc_law_mixed : FnScope N_law_mixed ["cell", "turn"] (defScope s_law_mixed) := ⟨rfl, rfl, rfl, by decide +kernel, rfl, by decide +kernel, by decide +kernel⟩
abbrev at_law_mixed (K : PySem.W.Frag) : Addr := He.ga K "_law_mixed"
abbrev s_law_draw : Stmt := top 38
abbrev N_law_draw : List Str := ["source", "limit", "told"]
theorem sc_law_draw : FnScope N_law_draw ["source", "limit"] (defScope s_law_draw) := ⟨rfl, rfl, rfl, by decide +kernel, rfl, by decide +kernel, by decide +kernel⟩
abbrev at_law_draw (K : PySem.W.Frag) : Addr := He.ga K "_law_draw"
abbrev s_law_number : Stmt := top 39
abbrev N_law_number : List Str := ["actual"]
theorem sc_law_number : FnScope N_law_number ["actual"] (defScope s_law_number) := ⟨rfl, rfl, rfl, by decide +kernel, rfl, by decide +kernel, by decide +kernel⟩
abbrev at_law_number (K : PySem.W.Frag) : Addr := He.ga K "_law_number"
abbrev s_law_same : Stmt := top 40
abbrev N_law_same : List Str := ["actual", "expected", "k"]
theorem sc_law_same : FnScope N_law_same ["actual", "expected"] (defScope s_law_same) := ⟨rfl, rfl, rfl, by decide +kernel, rfl, by decide +kernel, by decide +kernel⟩
abbrev at_law_same (K : PySem.W.Frag) : Addr := He.ga K "_law_same"
abbrev s_law_pick : Stmt := top 41
abbrev N_law_pick : List Str := ["source", "row"]
theorem sc_law_pick : FnScope N_law_pick ["source", "row"] (defScope s_law_pick) := ⟨rfl, rfl, rfl, by decide +kernel, rfl, by decide +kernel, by decide +kernel⟩
abbrev at_law_pick (K : PySem.W.Frag) : Addr := He.ga K "_law_pick"
abbrev s_law_shuffled : Stmt := top 42
abbrev N_law_shuffled : List Str := ["source", "row", "left", "out", "k"]
theorem sc_law_shuffled : FnScope N_law_shuffled ["source", "row"] (defScope s_law_shuffled) := ⟨rfl, rfl, rfl, by decide +kernel, rfl, by decide +kernel, by decide +kernel⟩
abbrev at_law_shuffled (K : PySem.W.Frag) : Addr := He.ga K "_law_shuffled"
abbrev s_law_group : Stmt := top 43
abbrev N_law_group : List Str := ["source", "size", "row"]
theorem sc_law_group : FnScope N_law_group ["source", "size"] (defScope s_law_group) := ⟨rfl, rfl, rfl, by decide +kernel, rfl, by decide +kernel, by decide +kernel⟩
abbrev at_law_group (K : PySem.W.Frag) : Addr := He.ga K "_law_group"
abbrev s_law_menu : Stmt := top 44
abbrev N_law_menu : List Str := ["source", "group", "kind"]
theorem sc_law_menu : FnScope N_law_menu ["source", "group", "kind"] (defScope s_law_menu) := ⟨rfl, rfl, rfl, by decide +kernel, rfl, by decide +kernel, by decide +kernel⟩
abbrev at_law_menu (K : PySem.W.Frag) : Addr := He.ga K "_law_menu"
abbrev s_law_cost : Stmt := top 45
abbrev N_law_cost : List Str := ["source", "kind"]
theorem sc_law_cost : FnScope N_law_cost ["source"] (defScope s_law_cost) := ⟨rfl, rfl, rfl, by decide +kernel, rfl, by decide +kernel, by decide +kernel⟩
abbrev at_law_cost (K : PySem.W.Frag) : Addr := He.ga K "_law_cost"
abbrev s_law_row : Stmt := top 46
abbrev N_law_row : List Str := ["source", "size", "free", "group", "kind"]
theorem sc_law_row : FnScope N_law_row ["source", "size", "free"] (defScope s_law_row) := ⟨rfl, rfl, rfl, by decide +kernel, rfl, by decide +kernel, by decide +kernel⟩
abbrev at_law_row (K : PySem.W.Frag) : Addr := He.ga K "_law_row"
abbrev s_law_rows : Stmt := top 47
abbrev N_law_rows : List Str := ["source", "size", "most", "free", "k"]
theorem sc_law_rows : FnScope N_law_rows ["source", "size", "most", "free"] (defScope s_law_rows) := ⟨rfl, rfl, rfl, by decide +kernel, rfl, by decide +kernel, by decide +kernel⟩
abbrev at_law_rows (K : PySem.W.Frag) : Addr := He.ga K "_law_rows"
abbrev s_law_lot_text : Stmt := top 48
abbrev N_law_lot_text : List Str := ["row", "group", "menu", "text", "place"]
theorem sc_law_lot_text : FnScope N_law_lot_text ["row"] (defScope s_law_lot_text) := ⟨rfl, rfl, rfl, by decide +kernel, rfl, by decide +kernel, by decide +kernel⟩
abbrev at_law_lot_text (K : PySem.W.Frag) : Addr := He.ga K "_law_lot_text"
abbrev s_law_lot : Stmt := top 49
abbrev N_law_lot : List Str := ["row"]
theorem sc_law_lot : FnScope N_law_lot ["row"] (defScope s_law_lot) := ⟨rfl, rfl, rfl, by decide +kernel, rfl, by decide +kernel, by decide +kernel⟩
abbrev at_law_lot (K : PySem.W.Frag) : Addr := He.ga K "_law_lot"
abbrev s_law_network : Stmt := top 50
abbrev N_law_network : List Str := ["size", "rows", "row"]
theorem sc_law_network : FnScope N_law_network ["size", "rows"] (defScope s_law_network) := ⟨rfl, rfl, rfl, by decide +kernel, rfl, by decide +kernel, by decide +kernel⟩
abbrev at_law_network (K : PySem.W.Frag) : Addr := He.ga K "_law_network"
abbrev s_law_mode : Stmt := top 51
abbrev N_law_mode : List Str := ["name"]
theorem sc_law_mode : FnScope N_law_mode ["name"] (defScope s_law_mode) := ⟨rfl, rfl, rfl, by decide +kernel, rfl, by decide +kernel, by decide +kernel⟩
abbrev at_law_mode (K : PySem.W.Frag) : Addr := He.ga K "_law_mode"
abbrev s_law_demand : Stmt := top 52
abbrev N_law_demand : List Str := ["top", "many", "name"]
theorem sc_law_demand : FnScope N_law_demand ["top", "many", "name"] (defScope s_law_demand) := ⟨rfl, rfl, rfl, by decide +kernel, rfl, by decide +kernel, by decide +kernel⟩
abbrev at_law_demand (K : PySem.W.Frag) : Addr := He.ga K "_law_demand"
abbrev s_law_lot_is : Stmt := top 53
abbrev N_law_lot_is : List Str := ["lot", "row"]
theorem sc_law_lot_is : FnScope N_law_lot_is ["lot", "row"] (defScope s_law_lot_is) := ⟨rfl, rfl, rfl, by decide +kernel, rfl, by decide +kernel, by decide +kernel⟩
abbrev at_law_lot_is (K : PySem.W.Frag) : Addr := He.ga K "_law_lot_is"
abbrev s_law_network_is : Stmt := top 54
abbrev N_law_network_is : List Str := ["network", "size", "rows", "k"]
theorem sc_law_network_is : FnScope N_law_network_is ["network", "size", "rows"] (defScope s_law_network_is) := ⟨rfl, rfl, rfl, by decide +kernel, rfl, by decide +kernel, by decide +kernel⟩
abbrev at_law_network_is (K : PySem.W.Frag) : Addr := He.ga K "_law_network_is"
abbrev s_law_demand_is : Stmt := top 55
abbrev N_law_demand_is : List Str := ["demand", "top", "many", "name"]
theorem sc_law_demand_is : FnScope N_law_demand_is ["demand", "top", "many", "name"] (defScope s_law_demand_is) := ⟨rfl, rfl, rfl, by decide +kernel, rfl, by decide +kernel, by decide +kernel⟩
abbrev at_law_demand_is (K : PySem.W.Frag) : Addr := He.ga K "_law_demand_is"
abbrev s_law_true : Stmt := top 56
abbrev N_law_true : List Str := ["verdict"]
theorem sc_law_true : FnScope N_law_true ["verdict"] (defScope s_law_true) := ⟨rfl, rfl, rfl, by decide +kernel, rfl, by decide +kernel, by decide +kernel⟩
abbrev at_law_true (K : PySem.W.Frag) : Addr := He.ga K "_law_true"
abbrev s_law_repeated : Stmt := top 57
abbrev N_law_repeated : List Str := ["source", "rows", "k"]
theorem sc_law_repeated : FnScope N_law_repeated ["source", "rows"] (defScope s_law_repeated) := ⟨rfl, rfl, rfl, by decide +kernel, rfl, by decide +kernel, by decide +kernel⟩
abbrev at_law_repeated (K : PySem.W.Frag) : Addr := He.ga K "_law_repeated"
abbrev s_law_network_text : Stmt := top 58
abbrev N_law_network_text : List Str := ["size", "top", "many", "name", "rows", "lines", "row"]
theorem sc_law_network_text : FnScope N_law_network_text ["size", "top", "many", "name", "rows"] (defScope s_law_network_text) := ⟨rfl, rfl, rfl, by decide +kernel, rfl, by decide +kernel, by decide +kernel⟩
abbrev at_law_network_text (K : PySem.W.Frag) : Addr := He.ga K "_law_network_text"
abbrev s_law_case : Stmt := top 59
abbrev N_law_case : List Str := ["source", "size", "top", "many", "name", "rows"]
theorem sc_law_case : FnScope N_law_case ["source"] (defScope s_law_case) := ⟨rfl, rfl, rfl, by decide +kernel, rfl, by decide +kernel, by decide +kernel⟩
abbrev at_law_case (K : PySem.W.Frag) : Addr := He.ga K "_law_case"
abbrev s_Lot_eq : Stmt := inClass (top 12) 8
abbrev N_Lot_eq : List Str := ["self", "other"]
theorem sc_Lot_eq : FnScope N_Lot_eq ["self", "other"] (defScope s_Lot_eq) := ⟨rfl, rfl, rfl, by decide +kernel, rfl, by decide +kernel, by decide +kernel⟩
abbrev at_Lot_eq (K : PySem.W.Frag) : Addr := He.ma K (He.ga K "Lot") "__eq__"
abbrev s_Network_eq : Stmt := inClass (top 21) 9
abbrev N_Network_eq : List Str := ["self", "other"]
theorem sc_Network_eq : FnScope N_Network_eq ["self", "other"] (defScope s_Network_eq) := ⟨rfl, rfl, rfl, by decide +kernel, rfl, by decide +kernel, by decide +kernel⟩
abbrev at_Network_eq (K : PySem.W.Frag) : Addr := He.ma K (He.ga K "Network") "__eq__"
abbrev s_Demand_eq : Stmt := inClass (top 24) 4
abbrev N_Demand_eq : List Str := ["self", "other"]
theorem sc_Demand_eq : FnScope N_Demand_eq ["self", "other"] (defScope s_Demand_eq) := ⟨rfl, rfl, rfl, by decide +kernel, rfl, by decide +kernel, by decide +kernel⟩
abbrev at_Demand_eq (K : PySem.W.Frag) : Addr := He.ma K (He.ga K "Demand") "__eq__"
abbrev s_law_back : Stmt := top 60
abbrev N_law_back : List Str := ["case", "text", "network", "demand", "told"]
theorem sc_law_back : FnScope N_law_back ["case"] (defScope s_law_back) := ⟨rfl, rfl, rfl, by decide +kernel, rfl, by decide +kernel, by decide +kernel⟩
abbrev at_law_back (K : PySem.W.Frag) : Addr := He.ga K "_law_back"
abbrev s_law_refused : Stmt := top 61
abbrev N_law_refused : List Str := ["network", "demand", "e"]
theorem sc_law_refused : FnScope N_law_refused ["network", "demand"] (defScope s_law_refused) := ⟨rfl, rfl, rfl, by decide +kernel, rfl, by decide +kernel, by decide +kernel⟩
abbrev at_law_refused (K : PySem.W.Frag) : Addr := He.ga K "_law_refused"
abbrev s_law : Stmt := top 62
abbrev N_law : List Str := ["script", "source", "first", "second", "case", "far", "told"]
theorem sc_law : FnScope N_law ["script"] (defScope s_law) := ⟨rfl, rfl, rfl, by decide +kernel, rfl, by decide +kernel, by decide +kernel⟩
abbrev at_law (K : PySem.W.Frag) : Addr := He.ga K "law"
abbrev s_PlaceOutOfRange_init : Stmt := inClass (top 4) 0
abbrev at_PlaceOutOfRange_init (K : PySem.W.Frag) : Addr := He.ma K (He.ga K "PlaceOutOfRange") "__init__"
def ex0 : FactL := [fun K => He.Fa.ok K (.glo "Demand"), fun K => He.Fa.ok K (.glo "Gather"), fun K => He.Fa.ok K (.glo "Lot"), fun K => He.Fa.ok K (.glo "Network"), fun K => He.Fa.ok K (.glo "PlaceOutOfRange"), fun K => He.Fa.ok K (.glo "Spread"), fun K => He.Fa.ok K (.glo "_law_back"), fun K => He.Fa.ok K (.glo "_law_case"), fun K => He.Fa.ok K (.glo "_law_cost"), fun K => He.Fa.ok K (.glo "_law_demand"), fun K => He.Fa.ok K (.glo "_law_demand_is"), fun K => He.Fa.ok K (.glo "_law_draw")]
def ex1 : FactL := [fun K => He.Fa.ok K (.glo "_law_group"), fun K => He.Fa.ok K (.glo "_law_lot"), fun K => He.Fa.ok K (.glo "_law_lot_is"), fun K => He.Fa.ok K (.glo "_law_lot_text"), fun K => He.Fa.ok K (.glo "_law_menu"), fun K => He.Fa.ok K (.glo "_law_mixed"), fun K => He.Fa.ok K (.glo "_law_mode"), fun K => He.Fa.ok K (.glo "_law_network"), fun K => He.Fa.ok K (.glo "_law_network_is"), fun K => He.Fa.ok K (.glo "_law_network_text"), fun K => He.Fa.ok K (.glo "_law_number"), fun K => He.Fa.ok K (.glo "_law_pick")]
def ex2 : FactL := [fun K => He.Fa.ok K (.glo "_law_refused"), fun K => He.Fa.ok K (.glo "_law_repeated"), fun K => He.Fa.ok K (.glo "_law_row"), fun K => He.Fa.ok K (.glo "_law_rows"), fun K => He.Fa.ok K (.glo "_law_same"), fun K => He.Fa.ok K (.glo "_law_shuffled"), fun K => He.Fa.ok K (.glo "_law_source"), fun K => He.Fa.ok K (.glo "_law_true"), fun K => He.Fa.ok K (.glo "all_different"), fun K => He.Fa.ok K (.glo "check_place"), fun K => He.Fa.ok K (.glo "check_size"), fun K => He.Fa.ok K (.glo "leading_places")]
def ex3 : FactL := [fun K => He.Fa.ok K (.glo "lot_in"), fun K => He.Fa.ok K (.glo "mode_in"), fun K => He.Fa.ok K (.glo "named_number"), fun K => He.Fa.ok K (.glo "number_in"), fun K => He.Fa.ok K (.glo "read_network"), fun K => He.Fa.ok K (.glo "write_network"), fun K => He.Fa.ok K (.glo "law"), fun K => He.Fa.ok K (.free "bool"), fun K => He.Fa.ok K (.free "int"), fun K => He.Fa.ok K (.free "isinstance"), fun K => He.Fa.ok K (.free "len"), fun K => He.Fa.ok K (.free "list")]
def ex4 : FactL := [fun K => He.Fa.ok K (.free "range"), fun K => He.Fa.ok K (.free "sorted"), fun K => He.Fa.ok K (.free "str"), fun K => He.Fa.ok K (.free "tuple"), fun K => He.Fa.ok K (.free "super"), fun K => He.Fa.ok K (.str "DIGITS" "0123456789"), fun K => He.Fa.ok K (.int "MOST_COUNT" 8), fun K => He.Fa.ok K (.int "MOST_DIGITS" 10), fun K => He.Fa.ok K (.int "MOST_LOTS" 40), fun K => He.Fa.ok K (.int "MOST_PLACES" 12), fun K => He.Fa.ok K (.int "MOST_PRICE" 1000000000), fun K => He.Fa.ok K (.cls "Lot")]
def ex5 : FactL := [fun K => isiB K (He.ga K "Lot"), fun K => He.Fa.ok K (.noat "Lot" "members"), fun K => He.Fa.ok K (.noat "Lot" "candidates"), fun K => He.Fa.ok K (.noat "Lot" "price"), fun K => He.Fa.ok K (.cls "Network"), fun K => isiB K (He.ga K "Network"), fun K => He.Fa.ok K (.noat "Network" "size"), fun K => He.Fa.ok K (.noat "Network" "lots"), fun K => He.Fa.ok K (.cls "Demand"), fun K => isiB K (He.ga K "Demand"), fun K => He.Fa.ok K (.noat "Demand" "root"), fun K => He.Fa.ok K (.noat "Demand" "count")]
def ex6 : FactL := [fun K => He.Fa.ok K (.noat "Demand" "mode"), fun K => He.Fa.ok K (.noat "Demand" "_name"), fun K => He.Fa.ok K (.cls "Gather"), fun K => isiB K (He.ga K "Gather"), fun K => He.conB K "Gather" "NAME" (.str "gather"), fun K => He.Fa.ok K (.cls "Spread"), fun K => isiB K (He.ga K "Spread"), fun K => He.conB K "Spread" "NAME" (.str "spread"), fun K => decide (PySem.W.kitOne K (.ref (He.ga K "Gather")) (.ref (He.ga K "Spread")) = some false), fun K => decide (PySem.W.kitOne K (.ref (He.ga K "Spread")) (.ref (He.ga K "Gather")) = some false), fun K => He.Fa.ok K (.meth "Lot" "__str__"), fun K => creadB K (He.ga K "Gather")]
def ex7 : FactL := [fun K => cvalB K (He.ga K "Gather") "NAME" (.str "gather"), fun K => mk0B K (He.ga K "Gather"), fun K => creadB K (He.ga K "Spread"), fun K => cvalB K (He.ga K "Spread") "NAME" (.str "spread"), fun K => mk0B K (He.ga K "Spread"), fun K => He.Fa.ok K (.mkr "Lot"), fun K => He.Fa.ok K (.mkr "Network"), fun K => He.Fa.ok K (.mkr "Demand"), fun K => He.Fa.ok K (.meth "Network" "__eq__"), fun K => He.Fa.ok K (.meth "Demand" "__eq__"), fun K => xfB K (He.ga K "PlaceOutOfRange"), fun K => He.Fa.ok K (.noat "PlaceOutOfRange" "place")]
def ex8 : FactL := [fun K => He.Fa.ok K (.exm "PlaceOutOfRange" "PlaceOutOfRange" true), fun K => He.Fa.ok K (.meth "Lot" "__eq__"), fun K => supB PP K (He.ga K "PlaceOutOfRange") (at_PlaceOutOfRange_init K) "PlaceOutOfRange.__init__"]
def exs : FactL := ex0 ++ ex1 ++ ex2 ++ ex3 ++ ex4 ++ ex5 ++ ex6 ++ ex7 ++ ex8
def fn0 : List He5.DefA := [⟨at_all_different, "all_different", "all_different", defArgs s_all_different, defBody s_all_different, defScope s_all_different, [], []⟩, ⟨at_Lot_init, "__init__", "Lot.__init__", defArgs s_Lot_init, defBody s_Lot_init, defScope s_Lot_init, [.non, (.int 0)], []⟩, ⟨at_check_place, "check_place", "check_place", defArgs s_check_place, defBody s_check_place, defScope s_check_place, [], []⟩, ⟨at_check_size, "check_size", "check_size", defArgs s_check_size, defBody s_check_size, defScope s_check_size, [], []⟩, ⟨at_Network_init, "__init__", "Network.__init__", defArgs s_Network_init, defBody s_Network_init, defScope s_Network_init, [], []⟩, ⟨at_Demand_init, "__init__", "Demand.__init__", defArgs s_Demand_init, defBody s_Demand_init, defScope s_Demand_init, [], []⟩, ⟨at_number_in, "number_in", "number_in", defArgs s_number_in, defBody s_number_in, defScope s_number_in, [], []⟩, ⟨at_Lot_str, "__str__", "Lot.__str__", defArgs s_Lot_str, defBody s_Lot_str, defScope s_Lot_str, [], []⟩, ⟨at_write_network, "write_network", "write_network", defArgs s_write_network, defBody s_write_network, defScope s_write_network, [], []⟩, ⟨at_named_number, "named_number", "named_number", defArgs s_named_number, defBody s_named_number, defScope s_named_number, [], []⟩]
def fn1 : List He5.DefA := [⟨at_mode_in, "mode_in", "mode_in", defArgs s_mode_in, defBody s_mode_in, defScope s_mode_in, [], []⟩, ⟨at_leading_places, "leading_places", "leading_places", defArgs s_leading_places, defBody s_leading_places, defScope s_leading_places, [], []⟩, ⟨at_lot_in, "lot_in", "lot_in", defArgs s_lot_in, defBody s_lot_in, defScope s_lot_in, [], []⟩, ⟨at_read_network, "read_network", "read_network", defArgs s_read_network, defBody s_read_network, defScope s_read_network, [], []⟩, ⟨at_law_source, "_law_source", "_law_source", defArgs s_law_source, defBody s_law_source, defScope s_law_source, [], []⟩, ⟨at_law_mixed, "_law_mixed", "_law_mixed", defArgs s_law_mixed, defBody s_law_mixed, defScope s_law_mixed, [], []⟩, ⟨at_law_draw, "_law_draw", "_law_draw", defArgs s_law_draw, defBody s_law_draw, defScope s_law_draw, [], []⟩, ⟨at_law_number, "_law_number", "_law_number", defArgs s_law_number, defBody s_law_number, defScope s_law_number, [], []⟩, ⟨at_law_same, "_law_same", "_law_same", defArgs s_law_same, defBody s_law_same, defScope s_law_same, [], []⟩, ⟨at_law_pick, "_law_pick", "_law_pick", defArgs s_law_pick, defBody s_law_pick, defScope s_law_pick, [], []⟩]
def fn2 : List He5.DefA := [⟨at_law_shuffled, "_law_shuffled", "_law_shuffled", defArgs s_law_shuffled, defBody s_law_shuffled, defScope s_law_shuffled, [], []⟩, ⟨at_law_group, "_law_group", "_law_group", defArgs s_law_group, defBody s_law_group, defScope s_law_group, [], []⟩, ⟨at_law_menu, "_law_menu", "_law_menu", defArgs s_law_menu, defBody s_law_menu, defScope s_law_menu, [], []⟩, ⟨at_law_cost, "_law_cost", "_law_cost", defArgs s_law_cost, defBody s_law_cost, defScope s_law_cost, [], []⟩, ⟨at_law_row, "_law_row", "_law_row", defArgs s_law_row, defBody s_law_row, defScope s_law_row, [], []⟩, ⟨at_law_rows, "_law_rows", "_law_rows", defArgs s_law_rows, defBody s_law_rows, defScope s_law_rows, [], []⟩, ⟨at_law_lot_text, "_law_lot_text", "_law_lot_text", defArgs s_law_lot_text, defBody s_law_lot_text, defScope s_law_lot_text, [], []⟩, ⟨at_law_lot, "_law_lot", "_law_lot", defArgs s_law_lot, defBody s_law_lot, defScope s_law_lot, [], []⟩, ⟨at_law_network, "_law_network", "_law_network", defArgs s_law_network, defBody s_law_network, defScope s_law_network, [], []⟩, ⟨at_law_mode, "_law_mode", "_law_mode", defArgs s_law_mode, defBody s_law_mode, defScope s_law_mode, [], []⟩]
def fn3 : List He5.DefA := [⟨at_law_demand, "_law_demand", "_law_demand", defArgs s_law_demand, defBody s_law_demand, defScope s_law_demand, [], []⟩, ⟨at_law_lot_is, "_law_lot_is", "_law_lot_is", defArgs s_law_lot_is, defBody s_law_lot_is, defScope s_law_lot_is, [], []⟩, ⟨at_law_network_is, "_law_network_is", "_law_network_is", defArgs s_law_network_is, defBody s_law_network_is, defScope s_law_network_is, [], []⟩, ⟨at_law_demand_is, "_law_demand_is", "_law_demand_is", defArgs s_law_demand_is, defBody s_law_demand_is, defScope s_law_demand_is, [], []⟩, ⟨at_law_true, "_law_true", "_law_true", defArgs s_law_true, defBody s_law_true, defScope s_law_true, [], []⟩, ⟨at_law_repeated, "_law_repeated", "_law_repeated", defArgs s_law_repeated, defBody s_law_repeated, defScope s_law_repeated, [], []⟩, ⟨at_law_network_text, "_law_network_text", "_law_network_text", defArgs s_law_network_text, defBody s_law_network_text, defScope s_law_network_text, [], []⟩, ⟨at_law_case, "_law_case", "_law_case", defArgs s_law_case, defBody s_law_case, defScope s_law_case, [], []⟩, ⟨at_Lot_eq, "__eq__", "Lot.__eq__", defArgs s_Lot_eq, defBody s_Lot_eq, defScope s_Lot_eq, [], []⟩, ⟨at_Network_eq, "__eq__", "Network.__eq__", defArgs s_Network_eq, defBody s_Network_eq, defScope s_Network_eq, [], []⟩]
def fn4 : List He5.DefA := [⟨at_Demand_eq, "__eq__", "Demand.__eq__", defArgs s_Demand_eq, defBody s_Demand_eq, defScope s_Demand_eq, [], []⟩, ⟨at_law_back, "_law_back", "_law_back", defArgs s_law_back, defBody s_law_back, defScope s_law_back, [], []⟩, ⟨at_law_refused, "_law_refused", "_law_refused", defArgs s_law_refused, defBody s_law_refused, defScope s_law_refused, [], []⟩, ⟨at_law, "law", "law", defArgs s_law, defBody s_law, defScope s_law, [], []⟩]
def fns : List He5.DefA := fn0 ++ fn1 ++ fn2 ++ fn3 ++ fn4
def cns : List He5.DefA := [⟨at_PlaceOutOfRange_init, "__init__", "PlaceOutOfRange.__init__", defArgs s_PlaceOutOfRange_init, defBody s_PlaceOutOfRange_init, defScope s_PlaceOutOfRange_init, [], []⟩]
class Tx (K : PySem.W.Frag) : Prop where
  says : SaysS exs fns cns K
section
variable {K : PySem.W.Frag} [Tx K] {mg : Str → Option Value}
theorem ft (i : Nat) {f : PySem.W.Frag → Bool} (h : exs[i]? = some f := by rfl) : f K = true := (Tx.says (K := K)).fact i h
theorem M_Demand (M : MgOk K mg) : mg "Demand" = some (.ref (He.ga K "Demand")) := M.glo (ft 0)
theorem M_Gather (M : MgOk K mg) : mg "Gather" = some (.ref (He.ga K "Gather")) := M.glo (ft 1)
theorem M_Lot (M : MgOk K mg) : mg "Lot" = some (.ref (He.ga K "Lot")) := M.glo (ft 2)
theorem M_Network (M : MgOk K mg) : mg "Network" = some (.ref (He.ga K "Network")) := M.glo (ft 3)
theorem M_PlaceOutOfRange (M : MgOk K mg) : mg "PlaceOutOfRange" = some (.ref (He.ga K "PlaceOutOfRange")) := M.glo (ft 4)
theorem M_Spread (M : MgOk K mg) : mg "Spread" = some (.ref (He.ga K "Spread")) := M.glo (ft 5)
theorem M_law_back (M : MgOk K mg) : mg "_law_back" = some (.ref (He.ga K "_law_back")) := M.glo (ft 6)
theorem M_law_case (M : MgOk K mg) : mg "_law_case" = some (.ref (He.ga K "_law_case")) := M.glo (ft 7)
theorem M_law_cost (M : MgOk K mg) : mg "_law_cost" = some (.ref (He.ga K "_law_cost")) := M.glo (ft 8)
theorem M_law_demand (M : MgOk K mg) : mg "_law_demand" = some (.ref (He.ga K "_law_demand")) := M.glo (ft 9)
theorem M_law_demand_is (M : MgOk K mg) : mg "_law_demand_is" = some (.ref (He.ga K "_law_demand_is")) := M.glo (ft 10)
theorem M_law_draw (M : MgOk K mg) : mg "_law_draw" = some (.ref (He.ga K "_law_draw")) := M.glo (ft 11)
theorem M_law_group (M : MgOk K mg) : mg "_law_group" = some (.ref (He.ga K "_law_group")) := M.glo (ft 12)
theorem M_law_lot (M : MgOk K mg) : mg "_law_lot" = some (.ref (He.ga K "_law_lot")) := M.glo (ft 13)
theorem M_law_lot_is (M : MgOk K mg) : mg "_law_lot_is" = some (.ref (He.ga K "_law_lot_is")) := M.glo (ft 14)
theorem M_law_lot_text (M : MgOk K mg) : mg "_law_lot_text" = some (.ref (He.ga K "_law_lot_text")) := M.glo (ft 15)
theorem M_law_menu (M : MgOk K mg) : mg "_law_menu" = some (.ref (He.ga K "_law_menu")) := M.glo (ft 16)
theorem M_law_mixed (M : MgOk K mg) : mg "_law_mixed" = some (.ref (He.ga K "_law_mixed")) := M.glo (ft 17)
theorem M_law_mode (M : MgOk K mg) : mg "_law_mode" = some (.ref (He.ga K "_law_mode")) := M.glo (ft 18)
theorem M_law_network (M : MgOk K mg) : mg "_law_network" = some (.ref (He.ga K "_law_network")) := M.glo (ft 19)
theorem M_law_network_is (M : MgOk K mg) : mg "_law_network_is" = some (.ref (He.ga K "_law_network_is")) := M.glo (ft 20)
theorem M_law_network_text (M : MgOk K mg) : mg "_law_network_text" = some (.ref (He.ga K "_law_network_text")) := M.glo (ft 21)
theorem M_law_number (M : MgOk K mg) : mg "_law_number" = some (.ref (He.ga K "_law_number")) := M.glo (ft 22)
theorem M_law_pick (M : MgOk K mg) : mg "_law_pick" = some (.ref (He.ga K "_law_pick")) := M.glo (ft 23)
theorem M_law_refused (M : MgOk K mg) : mg "_law_refused" = some (.ref (He.ga K "_law_refused")) := M.glo (ft 24)
theorem M_law_repeated (M : MgOk K mg) : mg "_law_repeated" = some (.ref (He.ga K "_law_repeated")) := M.glo (ft 25)
theorem M_law_row (M : MgOk K mg) : mg "_law_row" = some (.ref (He.ga K "_law_row")) := M.glo (ft 26)
theorem M_law_rows (M : MgOk K mg) : mg "_law_rows" = some (.ref (He.ga K "_law_rows")) := M.glo (ft 27)
theorem M_law_same (M : MgOk K mg) : mg "_law_same" = some (.ref (He.ga K "_law_same")) := M.glo (ft 28)
theorem M_law_shuffled (M : MgOk K mg) : mg "_law_shuffled" = some (.ref (He.ga K "_law_shuffled")) := M.glo (ft 29)
theorem M_law_source (M : MgOk K mg) : mg "_law_source" = some (.ref (He.ga K "_law_source")) := M.glo (ft 30)
theorem M_law_true (M : MgOk K mg) : mg "_law_true" = some (.ref (He.ga K "_law_true")) := M.glo (ft 31)
theorem M_all_different (M : MgOk K mg) : mg "all_different" = some (.ref (He.ga K "all_different")) := M.glo (ft 32)
theorem M_check_place (M : MgOk K mg) : mg "check_place" = some (.ref (He.ga K "check_place")) := M.glo (ft 33)
theorem M_check_size (M : MgOk K mg) : mg "check_size" = some (.ref (He.ga K "check_size")) := M.glo (ft 34)
theorem M_leading_places (M : MgOk K mg) : mg "leading_places" = some (.ref (He.ga K "leading_places")) := M.glo (ft 35)
theorem M_lot_in (M : MgOk K mg) : mg "lot_in" = some (.ref (He.ga K "lot_in")) := M.glo (ft 36)
theorem M_mode_in (M : MgOk K mg) : mg "mode_in" = some (.ref (He.ga K "mode_in")) := M.glo (ft 37)
theorem M_named_number (M : MgOk K mg) : mg "named_number" = some (.ref (He.ga K "named_number")) := M.glo (ft 38)
theorem M_number_in (M : MgOk K mg) : mg "number_in" = some (.ref (He.ga K "number_in")) := M.glo (ft 39)
theorem M_read_network (M : MgOk K mg) : mg "read_network" = some (.ref (He.ga K "read_network")) := M.glo (ft 40)
theorem M_write_network (M : MgOk K mg) : mg "write_network" = some (.ref (He.ga K "write_network")) := M.glo (ft 41)
theorem M_law (M : MgOk K mg) : mg "law" = some (.ref (He.ga K "law")) := M.glo (ft 42)
theorem Z_bool (M : MgOk K mg) : mg "bool" = none := M.free (ft 43)
theorem Z_int (M : MgOk K mg) : mg "int" = none := M.free (ft 44)
theorem Z_isinstance (M : MgOk K mg) : mg "isinstance" = none := M.free (ft 45)
theorem Z_len (M : MgOk K mg) : mg "len" = none := M.free (ft 46)
theorem Z_list (M : MgOk K mg) : mg "list" = none := M.free (ft 47)
theorem Z_range (M : MgOk K mg) : mg "range" = none := M.free (ft 48)
theorem Z_sorted (M : MgOk K mg) : mg "sorted" = none := M.free (ft 49)
theorem Z_str (M : MgOk K mg) : mg "str" = none := M.free (ft 50)
theorem Z_tuple (M : MgOk K mg) : mg "tuple" = none := M.free (ft 51)
theorem Z_super (M : MgOk K mg) : mg "super" = none := M.free (ft 52)
theorem C_DIGITS (M : MgOk K mg) : ∃ t, mg "DIGITS" = some (.str "0123456789" t) := M.str (ft 53)
theorem C_MOST_COUNT (M : MgOk K mg) : ∃ t, mg "MOST_COUNT" = some (.int 8 t) := M.int (ft 54)
theorem C_MOST_DIGITS (M : MgOk K mg) : ∃ t, mg "MOST_DIGITS" = some (.int 10 t) := M.int (ft 55)
theorem C_MOST_LOTS (M : MgOk K mg) : ∃ t, mg "MOST_LOTS" = some (.int 40 t) := M.int (ft 56)
theorem C_MOST_PLACES (M : MgOk K mg) : ∃ t, mg "MOST_PLACES" = some (.int 12 t) := M.int (ft 57)
theorem C_MOST_PRICE (M : MgOk K mg) : ∃ t, mg "MOST_PRICE" = some (.int 1000000000 t) := M.int (ft 58)
theorem cls_Lot : Cls K (He.ga K "Lot") := He.cls_ok (ft 59)
instance : ClsI K (He.ga K "Lot") := ⟨cls_Lot⟩
theorem isi_Lot : IsiC K (He.ga K "Lot") := isi_ok (ft 60)
theorem na_Lot_members : NoAttr K (He.ga K "Lot") "members" := He.noat_ok (ft 61)
instance : NoA K (He.ga K "Lot") "members" := ⟨na_Lot_members⟩
theorem na_Lot_candidates : NoAttr K (He.ga K "Lot") "candidates" := He.noat_ok (ft 62)
instance : NoA K (He.ga K "Lot") "candidates" := ⟨na_Lot_candidates⟩
theorem na_Lot_price : NoAttr K (He.ga K "Lot") "price" := He.noat_ok (ft 63)
instance : NoA K (He.ga K "Lot") "price" := ⟨na_Lot_price⟩
theorem cls_Network : Cls K (He.ga K "Network") := He.cls_ok (ft 64)
instance : ClsI K (He.ga K "Network") := ⟨cls_Network⟩
theorem isi_Network : IsiC K (He.ga K "Network") := isi_ok (ft 65)
theorem na_Network_size : NoAttr K (He.ga K "Network") "size" := He.noat_ok (ft 66)
instance : NoA K (He.ga K "Network") "size" := ⟨na_Network_size⟩
theorem na_Network_lots : NoAttr K (He.ga K "Network") "lots" := He.noat_ok (ft 67)
instance : NoA K (He.ga K "Network") "lots" := ⟨na_Network_lots⟩
theorem cls_Demand : Cls K (He.ga K "Demand") := He.cls_ok (ft 68)
instance : ClsI K (He.ga K "Demand") := ⟨cls_Demand⟩
theorem isi_Demand : IsiC K (He.ga K "Demand") := isi_ok (ft 69)
theorem na_Demand_root : NoAttr K (He.ga K "Demand") "root" := He.noat_ok (ft 70)
instance : NoA K (He.ga K "Demand") "root" := ⟨na_Demand_root⟩
theorem na_Demand_count : NoAttr K (He.ga K "Demand") "count" := He.noat_ok (ft 71)
instance : NoA K (He.ga K "Demand") "count" := ⟨na_Demand_count⟩
theorem na_Demand_mode : NoAttr K (He.ga K "Demand") "mode" := He.noat_ok (ft 72)
instance : NoA K (He.ga K "Demand") "mode" := ⟨na_Demand_mode⟩
theorem na_Demand__name : NoAttr K (He.ga K "Demand") "_name" := He.noat_ok (ft 73)
instance : NoA K (He.ga K "Demand") "_name" := ⟨na_Demand__name⟩
theorem cls_Gather : Cls K (He.ga K "Gather") := He.cls_ok (ft 74)
instance : ClsI K (He.ga K "Gather") := ⟨cls_Gather⟩
theorem isi_Gather : IsiC K (He.ga K "Gather") := isi_ok (ft 75)
theorem con_Gather_NAME : ∃ u, Con K (He.ga K "Gather") "NAME" (.str "gather") u := He.conB_ok (ft 76)
theorem cls_Spread : Cls K (He.ga K "Spread") := He.cls_ok (ft 77)
instance : ClsI K (He.ga K "Spread") := ⟨cls_Spread⟩
theorem isi_Spread : IsiC K (He.ga K "Spread") := isi_ok (ft 78)
theorem con_Spread_NAME : ∃ u, Con K (He.ga K "Spread") "NAME" (.str "spread") u := He.conB_ok (ft 79)
theorem kit_Gather_Spread : PySem.W.kitOne K (.ref (He.ga K "Gather")) (.ref (He.ga K "Spread")) = some false := of_decide_eq_true (ft 80)
theorem kit_Spread_Gather : PySem.W.kitOne K (.ref (He.ga K "Spread")) (.ref (He.ga K "Gather")) = some false := of_decide_eq_true (ft 81)
theorem mt_Lot_str : Meth K (He.ga K "Lot") "__str__" (He.ma K (He.ga K "Lot") "__str__") := He.meth_ok (ft 82)
theorem cr_Gather : ClX.CRead K (He.ga K "Gather") (.type "type") := cread_ok (ft 83)
theorem cv_Gather_NAME : ∃ u, ClX.CVal K (He.ga K "Gather") (.type "type") "NAME" (.str "gather") u := cval_ok (ft 84)
theorem mk0_Gather : Mk0 K (He.ga K "Gather") := mk0_ok (ft 85)
theorem cr_Spread : ClX.CRead K (He.ga K "Spread") (.type "type") := cread_ok (ft 86)
theorem cv_Spread_NAME : ∃ u, ClX.CVal K (He.ga K "Spread") (.type "type") "NAME" (.str "spread") u := cval_ok (ft 87)
theorem mk0_Spread : Mk0 K (He.ga K "Spread") := mk0_ok (ft 88)
theorem mk_Lot : Mk K (He.ga K "Lot") (He.ma K (He.ga K "Lot") "__init__") := He.mkr_ok (ft 89)
theorem mk_Network : Mk K (He.ga K "Network") (He.ma K (He.ga K "Network") "__init__") := He.mkr_ok (ft 90)
theorem mk_Demand : Mk K (He.ga K "Demand") (He.ma K (He.ga K "Demand") "__init__") := He.mkr_ok (ft 91)
theorem mt_Network_eq : Meth K (He.ga K "Network") "__eq__" (He.ma K (He.ga K "Network") "__eq__") := He.meth_ok (ft 92)
theorem mt_Demand_eq : Meth K (He.ga K "Demand") "__eq__" (He.ma K (He.ga K "Demand") "__eq__") := He.meth_ok (ft 93)
theorem xf_PlaceOutOfRange : XfC K (He.ga K "PlaceOutOfRange") := xfB_ok (ft 94)
theorem na_PlaceOutOfRange_place : NoAttr K (He.ga K "PlaceOutOfRange") "place" := He.noat_ok (ft 95)
instance : NoA K (He.ga K "PlaceOutOfRange") "place" := ⟨na_PlaceOutOfRange_place⟩
theorem exm_PlaceOutOfRange_PlaceOutOfRange : PySem.W.exmOne K (.ref (He.ga K "PlaceOutOfRange")) (.ref (He.ga K "PlaceOutOfRange")) = some true := He.exm_ok (ft 96)
theorem mt_Lot_eq : Meth K (He.ga K "Lot") "__eq__" (He.ma K (He.ga K "Lot") "__eq__") := He.meth_ok (ft 97)
theorem X_PlaceOutOfRange : SupF PP K (He.ga K "PlaceOutOfRange") (at_PlaceOutOfRange_init K) "__init__" "PlaceOutOfRange.__init__" (defArgs s_PlaceOutOfRange_init) (defBody s_PlaceOutOfRange_init) (defScope s_PlaceOutOfRange_init) (fdOf K (at_PlaceOutOfRange_init K)) := sup_ok (by first | exact (Tx.says (K := K)).sup 0) (ft 98)
theorem bx_PlaceOutOfRange : Binds K (fdOf K (at_PlaceOutOfRange_init K)) ["self", "place"] [] := X_PlaceOutOfRange.binds fun _ _ _ _ _ _ _ us hl => match us, hl with | [_, _], _ => rfl
theorem F_all_different : FunD K "all_different" "all_different" (defArgs s_all_different) (defBody s_all_different) (defScope s_all_different) [] [] (at_all_different K) (fdOf K (at_all_different K)) := (Tx.says (K := K)).def_ 0
theorem b_all_different : Binds K (fdOf K (at_all_different K)) ["places"] [] := F_all_different.bindsN fun _ _ _ _ _ _ us hl => match us, hl with | [_], _ => rfl
theorem F_Lot_init : FunD K "__init__" "Lot.__init__" (defArgs s_Lot_init) (defBody s_Lot_init) (defScope s_Lot_init) [.non, (.int 0)] [] (at_Lot_init K) (fdOf K (at_Lot_init K)) := (Tx.says (K := K)).def_ 1
theorem b_Lot_init : Binds K (fdOf K (at_Lot_init K)) ["self", "members", "candidates", "price"] [] := binds_all F_Lot_init (by simp) fun _ _ _ _ _ _ _ us its h1 h2 => match us, its, h1, h2 with | [_, _, _, _], [_, _], _, _ => ⟨_, rfl, rfl⟩
theorem F_check_place : FunD K "check_place" "check_place" (defArgs s_check_place) (defBody s_check_place) (defScope s_check_place) [] [] (at_check_place K) (fdOf K (at_check_place K)) := (Tx.says (K := K)).def_ 2
theorem b_check_place : Binds K (fdOf K (at_check_place K)) ["size", "place"] [] := F_check_place.bindsN fun _ _ _ _ _ _ us hl => match us, hl with | [_, _], _ => rfl
theorem F_check_size : FunD K "check_size" "check_size" (defArgs s_check_size) (defBody s_check_size) (defScope s_check_size) [] [] (at_check_size K) (fdOf K (at_check_size K)) := (Tx.says (K := K)).def_ 3
theorem b_check_size : Binds K (fdOf K (at_check_size K)) ["size"] [] := F_check_size.bindsN fun _ _ _ _ _ _ us hl => match us, hl with | [_], _ => rfl
theorem F_Network_init : FunD K "__init__" "Network.__init__" (defArgs s_Network_init) (defBody s_Network_init) (defScope s_Network_init) [] [] (at_Network_init K) (fdOf K (at_Network_init K)) := (Tx.says (K := K)).def_ 4
theorem b_Network_init : Binds K (fdOf K (at_Network_init K)) ["self", "size", "lots"] [] := F_Network_init.bindsN fun _ _ _ _ _ _ us hl => match us, hl with | [_, _, _], _ => rfl
theorem F_Demand_init : FunD K "__init__" "Demand.__init__" (defArgs s_Demand_init) (defBody s_Demand_init) (defScope s_Demand_init) [] [] (at_Demand_init K) (fdOf K (at_Demand_init K)) := (Tx.says (K := K)).def_ 5
theorem b_Demand_init : Binds K (fdOf K (at_Demand_init K)) ["self", "root", "count", "mode"] [] := F_Demand_init.bindsN fun _ _ _ _ _ _ us hl => match us, hl with | [_, _, _, _], _ => rfl
theorem F_number_in : FunD K "number_in" "number_in" (defArgs s_number_in) (defBody s_number_in) (defScope s_number_in) [] [] (at_number_in K) (fdOf K (at_number_in K)) := (Tx.says (K := K)).def_ 6
theorem b_number_in : Binds K (fdOf K (at_number_in K)) ["word", "least", "most"] [] := F_number_in.bindsN fun _ _ _ _ _ _ us hl => match us, hl with | [_, _, _], _ => rfl
theorem F_Lot_str : FunD K "__str__" "Lot.__str__" (defArgs s_Lot_str) (defBody s_Lot_str) (defScope s_Lot_str) [] [] (at_Lot_str K) (fdOf K (at_Lot_str K)) := (Tx.says (K := K)).def_ 7
theorem b_Lot_str : Binds K (fdOf K (at_Lot_str K)) ["self"] [] := F_Lot_str.bindsN fun _ _ _ _ _ _ us hl => match us, hl with | [_], _ => rfl
theorem F_write_network : FunD K "write_network" "write_network" (defArgs s_write_network) (defBody s_write_network) (defScope s_write_network) [] [] (at_write_network K) (fdOf K (at_write_network K)) := (Tx.says (K := K)).def_ 8
theorem b_write_network : Binds K (fdOf K (at_write_network K)) ["network", "demand"] [] := F_write_network.bindsN fun _ _ _ _ _ _ us hl => match us, hl with | [_, _], _ => rfl
theorem F_named_number : FunD K "named_number" "named_number" (defArgs s_named_number) (defBody s_named_number) (defScope s_named_number) [] [] (at_named_number K) (fdOf K (at_named_number K)) := (Tx.says (K := K)).def_ 9
theorem b_named_number : Binds K (fdOf K (at_named_number K)) ["lines", "index", "name", "least", "most"] [] := F_named_number.bindsN fun _ _ _ _ _ _ us hl => match us, hl with | [_, _, _, _, _], _ => rfl
theorem F_mode_in : FunD K "mode_in" "mode_in" (defArgs s_mode_in) (defBody s_mode_in) (defScope s_mode_in) [] [] (at_mode_in K) (fdOf K (at_mode_in K)) := (Tx.says (K := K)).def_ 10
theorem b_mode_in : Binds K (fdOf K (at_mode_in K)) ["lines", "index"] [] := F_mode_in.bindsN fun _ _ _ _ _ _ us hl => match us, hl with | [_, _], _ => rfl
theorem F_leading_places : FunD K "leading_places" "leading_places" (defArgs s_leading_places) (defBody s_leading_places) (defScope s_leading_places) [] [] (at_leading_places K) (fdOf K (at_leading_places K)) := (Tx.says (K := K)).def_ 11
theorem b_leading_places : Binds K (fdOf K (at_leading_places K)) ["words", "index"] [] := F_leading_places.bindsN fun _ _ _ _ _ _ us hl => match us, hl with | [_, _], _ => rfl
theorem F_lot_in : FunD K "lot_in" "lot_in" (defArgs s_lot_in) (defBody s_lot_in) (defScope s_lot_in) [] [] (at_lot_in K) (fdOf K (at_lot_in K)) := (Tx.says (K := K)).def_ 12
theorem b_lot_in : Binds K (fdOf K (at_lot_in K)) ["line", "size", "number"] [] := F_lot_in.bindsN fun _ _ _ _ _ _ us hl => match us, hl with | [_, _, _], _ => rfl
theorem F_read_network : FunD K "read_network" "read_network" (defArgs s_read_network) (defBody s_read_network) (defScope s_read_network) [] [] (at_read_network K) (fdOf K (at_read_network K)) := (Tx.says (K := K)).def_ 13
theorem b_read_network : Binds K (fdOf K (at_read_network K)) ["text"] [] := F_read_network.bindsN fun _ _ _ _ _ _ us hl => match us, hl with | [_], _ => rfl
theorem F_law_source : FunD K "_law_source" "_law_source" (defArgs s_law_source) (defBody s_law_source) (defScope s_law_source) [] [] (at_law_source K) (fdOf K (at_law_source K)) := (Tx.says (K := K)).def_ 14
theorem b_law_source : Binds K (fdOf K (at_law_source K)) ["script"] [] := F_law_source.bindsN fun _ _ _ _ _ _ us hl => match us, hl with | [_], _ => rfl
theorem F_law_mixed : FunD K "_law_mixed" "_law_mixed" (defArgs s_law_mixed) (defBody s_law_mixed) (defScope s_law_mixed) [] [] (at_law_mixed K) (fdOf K (at_law_mixed K)) := (Tx.says (K := K)).def_ 15
theorem b_law_mixed : Binds K (fdOf K (at_law_mixed K)) ["cell", "turn"] [] := F_law_mixed.bindsN fun _ _ _ _ _ _ us hl => match us, hl with | [_, _], _ => rfl
theorem F_law_draw : FunD K "_law_draw" "_law_draw" (defArgs s_law_draw) (defBody s_law_draw) (defScope s_law_draw) [] [] (at_law_draw K) (fdOf K (at_law_draw K)) := (Tx.says (K := K)).def_ 16
theorem b_law_draw : Binds K (fdOf K (at_law_draw K)) ["source", "limit"] [] := F_law_draw.bindsN fun _ _ _ _ _ _ us hl => match us, hl with | [_, _], _ => rfl
theorem F_law_number : FunD K "_law_number" "_law_number" (defArgs s_law_number) (defBody s_law_number) (defScope s_law_number) [] [] (at_law_number K) (fdOf K (at_law_number K)) := (Tx.says (K := K)).def_ 17
theorem b_law_number : Binds K (fdOf K (at_law_number K)) ["actual"] [] := F_law_number.bindsN fun _ _ _ _ _ _ us hl => match us, hl with | [_], _ => rfl
theorem F_law_same : FunD K "_law_same" "_law_same" (defArgs s_law_same) (defBody s_law_same) (defScope s_law_same) [] [] (at_law_same K) (fdOf K (at_law_same K)) := (Tx.says (K := K)).def_ 18
theorem b_law_same : Binds K (fdOf K (at_law_same K)) ["actual", "expected"] [] := F_law_same.bindsN fun _ _ _ _ _ _ us hl => match us, hl with | [_, _], _ => rfl
theorem F_law_pick : FunD K "_law_pick" "_law_pick" (defArgs s_law_pick) (defBody s_law_pick) (defScope s_law_pick) [] [] (at_law_pick K) (fdOf K (at_law_pick K)) := (Tx.says (K := K)).def_ 19
theorem b_law_pick : Binds K (fdOf K (at_law_pick K)) ["source", "row"] [] := F_law_pick.bindsN fun _ _ _ _ _ _ us hl => match us, hl with | [_, _], _ => rfl
theorem F_law_shuffled : FunD K "_law_shuffled" "_law_shuffled" (defArgs s_law_shuffled) (defBody s_law_shuffled) (defScope s_law_shuffled) [] [] (at_law_shuffled K) (fdOf K (at_law_shuffled K)) := (Tx.says (K := K)).def_ 20
theorem b_law_shuffled : Binds K (fdOf K (at_law_shuffled K)) ["source", "row"] [] := F_law_shuffled.bindsN fun _ _ _ _ _ _ us hl => match us, hl with | [_, _], _ => rfl
theorem F_law_group : FunD K "_law_group" "_law_group" (defArgs s_law_group) (defBody s_law_group) (defScope s_law_group) [] [] (at_law_group K) (fdOf K (at_law_group K)) := (Tx.says (K := K)).def_ 21
theorem b_law_group : Binds K (fdOf K (at_law_group K)) ["source", "size"] [] := F_law_group.bindsN fun _ _ _ _ _ _ us hl => match us, hl with | [_, _], _ => rfl
theorem F_law_menu : FunD K "_law_menu" "_law_menu" (defArgs s_law_menu) (defBody s_law_menu) (defScope s_law_menu) [] [] (at_law_menu K) (fdOf K (at_law_menu K)) := (Tx.says (K := K)).def_ 22
theorem b_law_menu : Binds K (fdOf K (at_law_menu K)) ["source", "group", "kind"] [] := F_law_menu.bindsN fun _ _ _ _ _ _ us hl => match us, hl with | [_, _, _], _ => rfl
theorem F_law_cost : FunD K "_law_cost" "_law_cost" (defArgs s_law_cost) (defBody s_law_cost) (defScope s_law_cost) [] [] (at_law_cost K) (fdOf K (at_law_cost K)) := (Tx.says (K := K)).def_ 23
theorem b_law_cost : Binds K (fdOf K (at_law_cost K)) ["source"] [] := F_law_cost.bindsN fun _ _ _ _ _ _ us hl => match us, hl with | [_], _ => rfl
theorem F_law_row : FunD K "_law_row" "_law_row" (defArgs s_law_row) (defBody s_law_row) (defScope s_law_row) [] [] (at_law_row K) (fdOf K (at_law_row K)) := (Tx.says (K := K)).def_ 24
theorem b_law_row : Binds K (fdOf K (at_law_row K)) ["source", "size", "free"] [] := F_law_row.bindsN fun _ _ _ _ _ _ us hl => match us, hl with | [_, _, _], _ => rfl
theorem F_law_rows : FunD K "_law_rows" "_law_rows" (defArgs s_law_rows) (defBody s_law_rows) (defScope s_law_rows) [] [] (at_law_rows K) (fdOf K (at_law_rows K)) := (Tx.says (K := K)).def_ 25
theorem b_law_rows : Binds K (fdOf K (at_law_rows K)) ["source", "size", "most", "free"] [] := F_law_rows.bindsN fun _ _ _ _ _ _ us hl => match us, hl with | [_, _, _, _], _ => rfl
theorem F_law_lot_text : FunD K "_law_lot_text" "_law_lot_text" (defArgs s_law_lot_text) (defBody s_law_lot_text) (defScope s_law_lot_text) [] [] (at_law_lot_text K) (fdOf K (at_law_lot_text K)) := (Tx.says (K := K)).def_ 26
theorem b_law_lot_text : Binds K (fdOf K (at_law_lot_text K)) ["row"] [] := F_law_lot_text.bindsN fun _ _ _ _ _ _ us hl => match us, hl with | [_], _ => rfl
theorem F_law_lot : FunD K "_law_lot" "_law_lot" (defArgs s_law_lot) (defBody s_law_lot) (defScope s_law_lot) [] [] (at_law_lot K) (fdOf K (at_law_lot K)) := (Tx.says (K := K)).def_ 27
theorem b_law_lot : Binds K (fdOf K (at_law_lot K)) ["row"] [] := F_law_lot.bindsN fun _ _ _ _ _ _ us hl => match us, hl with | [_], _ => rfl
theorem F_law_network : FunD K "_law_network" "_law_network" (defArgs s_law_network) (defBody s_law_network) (defScope s_law_network) [] [] (at_law_network K) (fdOf K (at_law_network K)) := (Tx.says (K := K)).def_ 28
theorem b_law_network : Binds K (fdOf K (at_law_network K)) ["size", "rows"] [] := F_law_network.bindsN fun _ _ _ _ _ _ us hl => match us, hl with | [_, _], _ => rfl
theorem F_law_mode : FunD K "_law_mode" "_law_mode" (defArgs s_law_mode) (defBody s_law_mode) (defScope s_law_mode) [] [] (at_law_mode K) (fdOf K (at_law_mode K)) := (Tx.says (K := K)).def_ 29
theorem b_law_mode : Binds K (fdOf K (at_law_mode K)) ["name"] [] := F_law_mode.bindsN fun _ _ _ _ _ _ us hl => match us, hl with | [_], _ => rfl
theorem F_law_demand : FunD K "_law_demand" "_law_demand" (defArgs s_law_demand) (defBody s_law_demand) (defScope s_law_demand) [] [] (at_law_demand K) (fdOf K (at_law_demand K)) := (Tx.says (K := K)).def_ 30
theorem b_law_demand : Binds K (fdOf K (at_law_demand K)) ["top", "many", "name"] [] := F_law_demand.bindsN fun _ _ _ _ _ _ us hl => match us, hl with | [_, _, _], _ => rfl
theorem F_law_lot_is : FunD K "_law_lot_is" "_law_lot_is" (defArgs s_law_lot_is) (defBody s_law_lot_is) (defScope s_law_lot_is) [] [] (at_law_lot_is K) (fdOf K (at_law_lot_is K)) := (Tx.says (K := K)).def_ 31
theorem b_law_lot_is : Binds K (fdOf K (at_law_lot_is K)) ["lot", "row"] [] := F_law_lot_is.bindsN fun _ _ _ _ _ _ us hl => match us, hl with | [_, _], _ => rfl
theorem F_law_network_is : FunD K "_law_network_is" "_law_network_is" (defArgs s_law_network_is) (defBody s_law_network_is) (defScope s_law_network_is) [] [] (at_law_network_is K) (fdOf K (at_law_network_is K)) := (Tx.says (K := K)).def_ 32
theorem b_law_network_is : Binds K (fdOf K (at_law_network_is K)) ["network", "size", "rows"] [] := F_law_network_is.bindsN fun _ _ _ _ _ _ us hl => match us, hl with | [_, _, _], _ => rfl
theorem F_law_demand_is : FunD K "_law_demand_is" "_law_demand_is" (defArgs s_law_demand_is) (defBody s_law_demand_is) (defScope s_law_demand_is) [] [] (at_law_demand_is K) (fdOf K (at_law_demand_is K)) := (Tx.says (K := K)).def_ 33
theorem b_law_demand_is : Binds K (fdOf K (at_law_demand_is K)) ["demand", "top", "many", "name"] [] := F_law_demand_is.bindsN fun _ _ _ _ _ _ us hl => match us, hl with | [_, _, _, _], _ => rfl
theorem F_law_true : FunD K "_law_true" "_law_true" (defArgs s_law_true) (defBody s_law_true) (defScope s_law_true) [] [] (at_law_true K) (fdOf K (at_law_true K)) := (Tx.says (K := K)).def_ 34
theorem b_law_true : Binds K (fdOf K (at_law_true K)) ["verdict"] [] := F_law_true.bindsN fun _ _ _ _ _ _ us hl => match us, hl with | [_], _ => rfl
theorem F_law_repeated : FunD K "_law_repeated" "_law_repeated" (defArgs s_law_repeated) (defBody s_law_repeated) (defScope s_law_repeated) [] [] (at_law_repeated K) (fdOf K (at_law_repeated K)) := (Tx.says (K := K)).def_ 35
theorem b_law_repeated : Binds K (fdOf K (at_law_repeated K)) ["source", "rows"] [] := F_law_repeated.bindsN fun _ _ _ _ _ _ us hl => match us, hl with | [_, _], _ => rfl
theorem F_law_network_text : FunD K "_law_network_text" "_law_network_text" (defArgs s_law_network_text) (defBody s_law_network_text) (defScope s_law_network_text) [] [] (at_law_network_text K) (fdOf K (at_law_network_text K)) := (Tx.says (K := K)).def_ 36
theorem b_law_network_text : Binds K (fdOf K (at_law_network_text K)) ["size", "top", "many", "name", "rows"] [] := F_law_network_text.bindsN fun _ _ _ _ _ _ us hl => match us, hl with | [_, _, _, _, _], _ => rfl
theorem F_law_case : FunD K "_law_case" "_law_case" (defArgs s_law_case) (defBody s_law_case) (defScope s_law_case) [] [] (at_law_case K) (fdOf K (at_law_case K)) := (Tx.says (K := K)).def_ 37
theorem b_law_case : Binds K (fdOf K (at_law_case K)) ["source"] [] := F_law_case.bindsN fun _ _ _ _ _ _ us hl => match us, hl with | [_], _ => rfl
theorem F_Lot_eq : FunD K "__eq__" "Lot.__eq__" (defArgs s_Lot_eq) (defBody s_Lot_eq) (defScope s_Lot_eq) [] [] (at_Lot_eq K) (fdOf K (at_Lot_eq K)) := (Tx.says (K := K)).def_ 38
theorem b_Lot_eq : Binds K (fdOf K (at_Lot_eq K)) ["self", "other"] [] := F_Lot_eq.bindsN fun _ _ _ _ _ _ us hl => match us, hl with | [_, _], _ => rfl
theorem F_Network_eq : FunD K "__eq__" "Network.__eq__" (defArgs s_Network_eq) (defBody s_Network_eq) (defScope s_Network_eq) [] [] (at_Network_eq K) (fdOf K (at_Network_eq K)) := (Tx.says (K := K)).def_ 39
theorem b_Network_eq : Binds K (fdOf K (at_Network_eq K)) ["self", "other"] [] := F_Network_eq.bindsN fun _ _ _ _ _ _ us hl => match us, hl with | [_, _], _ => rfl
theorem F_Demand_eq : FunD K "__eq__" "Demand.__eq__" (defArgs s_Demand_eq) (defBody s_Demand_eq) (defScope s_Demand_eq) [] [] (at_Demand_eq K) (fdOf K (at_Demand_eq K)) := (Tx.says (K := K)).def_ 40
theorem b_Demand_eq : Binds K (fdOf K (at_Demand_eq K)) ["self", "other"] [] := F_Demand_eq.bindsN fun _ _ _ _ _ _ us hl => match us, hl with | [_, _], _ => rfl
theorem F_law_back : FunD K "_law_back" "_law_back" (defArgs s_law_back) (defBody s_law_back) (defScope s_law_back) [] [] (at_law_back K) (fdOf K (at_law_back K)) := (Tx.says (K := K)).def_ 41
theorem b_law_back : Binds K (fdOf K (at_law_back K)) ["case"] [] := F_law_back.bindsN fun _ _ _ _ _ _ us hl => match us, hl with | [_], _ => rfl
theorem F_law_refused : FunD K "_law_refused" "_law_refused" (defArgs s_law_refused) (defBody s_law_refused) (defScope s_law_refused) [] [] (at_law_refused K) (fdOf K (at_law_refused K)) := (Tx.says (K := K)).def_ 42
theorem b_law_refused : Binds K (fdOf K (at_law_refused K)) ["network", "demand"] [] := F_law_refused.bindsN fun _ _ _ _ _ _ us hl => match us, hl with | [_, _], _ => rfl
theorem F_law : FunD K "law" "law" (defArgs s_law) (defBody s_law) (defScope s_law) [] [] (at_law K) (fdOf K (at_law K)) := (Tx.says (K := K)).def_ 43
theorem b_law : Binds K (fdOf K (at_law K)) ["script"] [] := F_law.bindsN fun _ _ _ _ _ _ us hl => match us, hl with | [_], _ => rfl
end
end K63

set_option Elab.async false
set_option linter.all false
set_option maxRecDepth 100000
set_option maxHeartbeats 2000000
set_option autoImplicit false
/-! What the defs promise, over plain data. -/
namespace K63
open PySem PySem.Spec PyProof.Rows L2 S

abbrev its (i : Int) : Str := Str.ofString (toString i)
/-- sorted -/
def srt (l : List Int) : List Int := l.mergeSort (fun a b => decide (a ≤ b))
theorem srt_perm (l : List Int) : (srt l).Perm l := List.mergeSort_perm l _
theorem srt_sorted (l : List Int) : (srt l).Pairwise (· ≤ ·) := by
  have h := List.pairwise_mergeSort (le := fun a b : Int => decide (a ≤ b)) (fun a b c h1 h2 => by simp at *; omega) (fun a b => by simp; omega) l
  exact h.imp (by intro a b h; simpa using h)
theorem srt_eq {l m : List Int} (p : m.Perm l) (s : m.Pairwise (· ≤ ·)) : m = srt l :=
  (p.trans (srt_perm l).symm).eq_of_pairwise (le := (· ≤ ·)) (fun a b _ _ h1 h2 => Int.le_antisymm h1 h2) s (srt_sorted l)

/-! ### data -/
structure LotD where
  mem : List Int
  cand : List Int
  price : Int
def LotD.F (l : LotD) : List (Str × Ty) := [("members", dT (l.mem.map dI)), ("candidates", dT (l.cand.map dI)), ("price", dI l.price)]
abbrev lotT (K : PySem.W.Frag) (l : LotD) : Ty := dO (He.ga K "Lot") l.F
structure LotD.Ok (n : Int) (l : LotD) : Prop where
  srt : l.mem.Pairwise (· < ·)
  len : 2 ≤ l.mem.length
  rng : ∀ z ∈ l.mem, 0 ≤ z ∧ z < n
  csrt : l.cand.Pairwise (· < ·)
  cne : l.cand ≠ []
  sub : ∀ z ∈ l.cand, z ∈ l.mem
  p0 : 0 ≤ l.price
  p1 : l.price ≤ 1000000000
def netF (K : PySem.W.Frag) (n : Int) (ls : List LotD) : List (Str × Ty) := [("size", dI n), ("lots", dT (ls.map (lotT K)))]
abbrev netT (K : PySem.W.Frag) (n : Int) (ls : List LotD) : Ty := dO (He.ga K "Network") (netF K n ls)
/-- a mode: gather? -/
abbrev modeC (b : Bool) : Str := if b then "Gather" else "Spread"
def modeN (b : Bool) : Str := if b then "gather" else "spread"
abbrev modeT (K : PySem.W.Frag) (b : Bool) : Ty := dO (He.ga K (modeC b)) []
def demF (K : PySem.W.Frag) (r c : Int) (b : Bool) : List (Str × Ty) := [("root", dI r), ("count", dI c), ("mode", modeT K b), ("_name", dS (modeN b))]
abbrev demT (K : PySem.W.Frag) (r c : Int) (b : Bool) : Ty := dO (He.ga K "Demand") (demF K r c b)
/-- a row of the law -/
structure RowD where
  g : List Int
  m : List Int
  c : Int
structure RowD.Ok (n : Int) (r : RowD) : Prop where
  nd : r.g.Nodup
  len : 2 ≤ r.g.length
  rng : ∀ z ∈ r.g, 0 ≤ z ∧ z < n
  mnd : r.m.Nodup
  mne : r.m ≠ []
  sub : ∀ z ∈ r.m, z ∈ r.g
  p0 : 0 ≤ r.c
  p1 : r.c ≤ 1000000000
def rowT (r : RowD) : Ty := dT [dL (r.g.map dI), dL (r.m.map dI), dI r.c]
def RowD.lot (r : RowD) : LotD := ⟨srt r.g, srt r.m, r.c⟩
theorem lt_of_nodup {l : List Int} (s : l.Pairwise (· ≤ ·)) (n : l.Nodup) : l.Pairwise (· < ·) := (s.and n).imp fun h => by omega
theorem srt_lt {l : List Int} (n : l.Nodup) : (srt l).Pairwise (· < ·) := lt_of_nodup (srt_sorted l) ((srt_perm l).nodup_iff.mpr n)
theorem mem_srt {l : List Int} {z : Int} : z ∈ srt l ↔ z ∈ l := (srt_perm l).mem_iff
theorem RowD.Ok.lot {n : Int} {r : RowD} (h : r.Ok n) : r.lot.Ok n where
  srt := srt_lt h.nd
  len := by show 2 ≤ (K63.srt r.g).length; rw [(srt_perm _).length_eq]; exact h.len
  rng := fun z hz => h.rng z (mem_srt.mp hz)
  csrt := srt_lt h.mnd
  cne := fun e => h.mne (by have := (srt_perm r.m).length_eq; rw [show K63.srt r.m = [] from e] at this; exact List.length_eq_zero_iff.mp this.symm)
  sub := fun z hz => mem_srt.mpr (h.sub z (mem_srt.mp hz))
  p0 := h.p0
  p1 := h.p1
/-- a case of the law -/
structure CaseD where
  n : Int
  top : Int
  many : Int
  b : Bool
  rows : List RowD
structure CaseD.Ok (c : CaseD) : Prop where
  n1 : 1 ≤ c.n
  n2 : c.n ≤ 12
  t0 : 0 ≤ c.top
  t1 : c.top < c.n
  m0 : 0 ≤ c.many
  m1 : c.many ≤ 8
  len : c.rows.length ≤ 40
  rok : ∀ r ∈ c.rows, r.Ok c.n
def caseT (c : CaseD) : Ty := dT [dI c.n, dI c.top, dI c.many, dS (modeN c.b), dL (c.rows.map rowT)]
def CaseD.lots (c : CaseD) : List LotD := c.rows.map RowD.lot
/-- the script's source -/
structure Src (ts : List Ty) (T : Nat) : Prop where
  ex : ∃ (sc : List Int) (pos val left tot : Int) (big : Bool), ts = [dL (sc.map dI), dI pos, dI val, dI left, dI tot, dB big] ∧ 0 ≤ pos ∧ val.natAbs.log2 ≤ 1048576 ∧ (∀ z ∈ sc, z.natAbs.log2 ≤ 1048576) ∧ sc.length ≤ 63 ∧ 0 ≤ tot ∧ tot ≤ T
def Small (sc : List Int) : Prop := (∀ z ∈ sc, z.natAbs.log2 ≤ 1048576) ∧ sc.length ≤ 63

/-! ### texts -/
def lotTxt (l : LotD) : Str := Txt.join " " ([Txt.join " " (l.mem.map its)] ++ (if l.cand = l.mem then [] else ["heads " ++ Txt.join " " (l.cand.map its)]) ++ (if l.price = 0 then [] else ["price " ++ its l.price]))
def netLines (n r c : Int) (b : Bool) (ls : List LotD) : List Str := ["places " ++ its n, "root " ++ its r, "count " ++ its c, "mode " ++ modeN b] ++ ls.map fun l => "lot " ++ lotTxt l
def netTxt (n r c : Int) (b : Bool) (ls : List LotD) : Str := Txt.join "\n" (netLines n r c b ls)
/-- number_in -/
def digs : Str := "0123456789"
def numIn (w : Str) (l m : Int) : Option Int :=
  if w.length = 0 ∨ 10 < w.length then none else if w.cps.toList.all (fun c => decide (c ∈ digs.cps.toList)) = false then none else if w.cps.toList[0]? = some 48 ∧ 1 < w.length then none else
    match PySem.intText? w with
    | some v => if v < l ∨ m < v then none else some v
    | none => none
def optT (o : Option Int) : Ty := match o with
  | some v => dI v
  | none => dN
/-- leading_places: from the i-th word on -/
def leadP : List Str → List Int
  | [] => []
  | w :: ws => match numIn w 0 11 with
    | some v => v :: leadP ws
    | none => []

/-! ### the promises of the program's defs -/
def g_all_different (K : PySem.W.Frag) : Sg := sg1 fun x cs k _ => ∃ ns : List Int, IsL cs x (ns.map dI) ∧ ns.length < 1000 ∧ k (dB (decide ns.Nodup)) cs
def g_Lot_init (K : PySem.W.Frag) : Sg := sg4 fun x y z w cs k _ => ∃ (a : Addr) (ms : List Int) (cds : List Int) (p : Int), x = dR a ∧ cs a = some (.ins (He.ga K "Lot") []) ∧ IsL cs y (ms.map dI) ∧ ((z = dN ∧ cds = ms) ∨ IsL cs z (cds.map dI)) ∧ w = dI p ∧
  (ms.Nodup ∧ 2 ≤ ms.length ∧ ms.length < 1000 ∧ (∀ q ∈ ms, 0 ≤ q ∧ q < 12) ∧ cds.Nodup ∧ cds ≠ [] ∧ cds.length < 1000 ∧ (∀ q ∈ cds, q ∈ ms) ∧ 0 ≤ p ∧ p ≤ 1000000000) ∧ k dN (cs.set a (.ins (He.ga K "Lot") (LotD.F ⟨srt ms, srt cds, p⟩)))
def g_check_place (K : PySem.W.Frag) : Sg := sg2 fun x y cs k ke => ∃ n r : Int, x = dI n ∧ y = dI r ∧ (0 ≤ r ∧ r < n → k dN cs) ∧ (¬ (0 ≤ r ∧ r < n) → ke ⟨.ref (He.ga K "PlaceOutOfRange"), [("place", dI r)]⟩ cs)
def g_check_size (K : PySem.W.Frag) : Sg := sg1 fun x cs k _ => ∃ n : Int, x = dI n ∧ 1 ≤ n ∧ n ≤ 12 ∧ k dN cs
def g_Network_init (K : PySem.W.Frag) : Sg := sg3 fun x y z cs k _ => ∃ (a : Addr) (n : Int) (ls : List LotD), x = dR a ∧ cs a = some (.ins (He.ga K "Network") []) ∧ y = dI n ∧ 1 ≤ n ∧ n ≤ 12 ∧ IsL cs z (ls.map (lotT K)) ∧ ls.length ≤ 40 ∧ (∀ l ∈ ls, l.Ok n) ∧ k dN (cs.set a (.ins (He.ga K "Network") (netF K n ls)))
def g_Demand_init (K : PySem.W.Frag) : Sg := sg4 fun x y z w cs k _ => ∃ (a : Addr) (r c : Int) (b : Bool), x = dR a ∧ cs a = some (.ins (He.ga K "Demand") []) ∧ y = dI r ∧ z = dI c ∧ w = modeT K b ∧ 0 ≤ r ∧ r < 12 ∧ 0 ≤ c ∧ c ≤ 8 ∧ k dN (cs.set a (.ins (He.ga K "Demand") (demF K r c b)))
def g_number_in (K : PySem.W.Frag) : Sg := sg3 fun x y z cs k _ => ∃ (w : Str) (l m : Int), x = dS w ∧ y = dI l ∧ z = dI m ∧ w.length ≤ 100000 ∧ k (optT (numIn w l m)) cs
def g_Lot_str (K : PySem.W.Frag) : Sg := sg1 fun x cs k _ => ∃ l : LotD, x = lotT K l ∧ l.Ok 12 ∧ k (dS (lotTxt l)) cs
def g_write_network (K : PySem.W.Frag) : Sg := sg2 fun x y cs k ke => ∃ (n r c : Int) (b : Bool) (ls : List LotD), x = netT K n ls ∧ y = demT K r c b ∧ 1 ≤ n ∧ n ≤ 12 ∧ ls.length ≤ 40 ∧ (∀ l ∈ ls, l.Ok 12) ∧ 0 ≤ r ∧ r < 12 ∧ 0 ≤ c ∧ c ≤ 8 ∧
  (r < n → k (dS (netTxt n r c b ls)) cs) ∧ (¬ r < n → ke ⟨.ref (He.ga K "PlaceOutOfRange"), [("place", dI r)]⟩ cs)
def g_named_number (K : PySem.W.Frag) : Sg := sg5 fun x y z w v cs k _ => ∃ (ls : List Str) (i : Nat) (nm : Str) (l m q : Int), IsL cs x (ls.map dS) ∧ y = dI (i : Int) ∧ z = dS nm ∧ w = dI l ∧ v = dI m ∧ i < ls.length ∧ ls.length ≤ 100 ∧ 0 ≤ q ∧ q ≤ 12 ∧ l ≤ q ∧ q ≤ m ∧ ls[i]? = some (nm ++ " " ++ its q) ∧ (32 ∉ TL.tl nm) ∧ nm.length ≤ 10 ∧ k (dI q) cs
def g_mode_in (K : PySem.W.Frag) : Sg := sg2 fun x y cs k _ => ∃ (ls : List Str) (i : Nat) (b : Bool), IsL cs x (ls.map dS) ∧ y = dI (i : Int) ∧ i < ls.length ∧ ls.length ≤ 100 ∧ ls[i]? = some ("mode " ++ modeN b) ∧ k (modeT K b) cs
def g_leading_places (K : PySem.W.Frag) : Sg := sg2 fun x y cs k _ => ∃ (ws : List Str) (i : Nat), IsL cs x (ws.map dS) ∧ y = dI (i : Int) ∧ i ≤ ws.length ∧ ws.length ≤ 100 ∧ (∀ w ∈ ws, w.length ≤ 100000) ∧ k (dT [dL ((leadP (ws.drop i)).map dI), dI ((i + (leadP (ws.drop i)).length : Nat) : Int)]) cs
def g_lot_in (K : PySem.W.Frag) : Sg := sg3 fun x y z cs k _ => ∃ (l : LotD) (n i : Int), x = dS ("lot " ++ lotTxt l) ∧ y = dI n ∧ z = dI i ∧ n ≤ 12 ∧ l.Ok n ∧ k (lotT K l) cs
def g_read_network (K : PySem.W.Frag) : Sg := sg1 fun x cs k _ => ∃ (n r c : Int) (b : Bool) (ls : List LotD), x = dS (netTxt n r c b ls) ∧ 1 ≤ n ∧ n ≤ 12 ∧ ls.length ≤ 40 ∧ (∀ l ∈ ls, l.Ok n) ∧ 0 ≤ r ∧ r < n ∧ 0 ≤ c ∧ c ≤ 8 ∧ k (dT [netT K n ls, demT K r c b]) cs
def g_Lot_eq (K : PySem.W.Frag) : Sg := sg2 fun x y cs k _ => ∃ l : LotD, x = lotT K l ∧ y = lotT K l ∧ l.mem.length ≤ 100 ∧ l.cand.length ≤ 100 ∧ k (dB true) cs
def g_Network_eq (K : PySem.W.Frag) : Sg := sg2 fun x y cs k _ => ∃ (n : Int) (ls : List LotD), x = netT K n ls ∧ y = netT K n ls ∧ (∀ l ∈ ls, l.Ok 12) ∧ k (dB true) cs
def g_Demand_eq (K : PySem.W.Frag) : Sg := sg2 fun x y cs k _ => ∃ (r c : Int) (b : Bool), x = demT K r c b ∧ y = demT K r c b ∧ k (dB true) cs

/-! ### .. of the law's defs -/
def g_law_source (K : PySem.W.Frag) : Sg := sg1 fun x cs k _ => ∃ ns : List Int, x = dKs K (ns.map dI) ∧ Small ns ∧ ∀ a ts, cs a = none → Src ts 0 → k (dR a) (cs.set a (.lst ts))
def g_law_mixed (K : PySem.W.Frag) : Sg := sg2 fun x y cs k _ => ∃ c t : Int, x = dI c ∧ y = dI t ∧ c.natAbs.log2 ≤ 1048577 ∧ 0 ≤ t ∧ t ≤ 1000000 ∧ ∀ v : Int, 0 ≤ v → v < 2147483629 → k (dI v) cs
def g_law_draw (K : PySem.W.Frag) : Sg := sg2 fun x y cs k _ => ∃ (a : Addr) (ts : List Ty) (T : Nat) (n : Int), x = dR a ∧ y = dI n ∧ 0 < n ∧ n ≤ 10000000000 ∧ cs a = some (.lst ts) ∧ Src ts T ∧ T < 1000000 ∧ ∀ (v : Int) (ts' : List Ty), 0 ≤ v → v < n → Src ts' (T + 1) → k (dI v) (cs.set a (.lst ts'))
def g_law_number (K : PySem.W.Frag) : Sg := sg1 fun x cs k _ => ∃ i : Int, x = dI i ∧ k (dB true) cs
/-- the same data, n deep -/
def Sm (cs : CS) : Nat → Ty → Ty → Prop
  | 0 => fun _ _ => False
  | n + 1 => fun x y => (∃ i, x = dI i ∧ y = dI i) ∨ (∃ z, x = dS z ∧ y = dS z) ∨ (∃ b, x = dB b ∧ y = dB b) ∨ (x = dN ∧ y = dN) ∨ ∃ ts us, x = dT ts ∧ y = dT us ∧ ts.length = us.length ∧ us.length < 1000 ∧ ∀ (i : Nat) t u, ts[i]? = some t → us[i]? = some u → Sm cs n t u
def g_law_same (K : PySem.W.Frag) (n : Nat) : Sg := sg2 fun x y cs k _ => Sm cs n x y ∧ k (dB true) cs
def g_law_pick (K : PySem.W.Frag) : Sg := sg2 fun x y cs k _ => ∃ (a : Addr) (ts : List Ty) (T : Nat) (us : List Ty), x = dR a ∧ cs a = some (.lst ts) ∧ Src ts T ∧ T < 1000000 ∧ (∀ ts', IsL (cs.set a (.lst ts')) y us) ∧ IsL cs y us ∧ us ≠ [] ∧ us.length ≤ 1000 ∧ ∀ u ∈ us, ∀ ts', Src ts' (T + 1) → k u (cs.set a (.lst ts'))
def g_law_shuffled (K : PySem.W.Frag) : Sg := sg2 fun x y cs k _ => ∃ (a : Addr) (ts : List Ty) (T : Nat) (ns : List Int), x = dR a ∧ cs a = some (.lst ts) ∧ Src ts T ∧ T + ns.length < 1000000 ∧ (∀ ts', IsL (cs.set a (.lst ts')) y (ns.map dI)) ∧ IsL cs y (ns.map dI) ∧ ns.length ≤ 1000 ∧ ∀ (ns' : List Int) ts', ns'.Perm ns → Src ts' (T + ns.length) → k (dL (ns'.map dI)) (cs.set a (.lst ts'))
def g_law_group (K : PySem.W.Frag) : Sg := sg2 fun x y cs k _ => ∃ (a : Addr) (ts : List Ty) (T : Nat) (n : Int), x = dR a ∧ y = dI n ∧ cs a = some (.lst ts) ∧ Src ts T ∧ T + 20 < 1000000 ∧ 2 ≤ n ∧ n ≤ 12 ∧ ∀ (g : List Int) ts', g.Nodup → 2 ≤ g.length → g.length ≤ 12 → (∀ z ∈ g, 0 ≤ z ∧ z < n) → Src ts' (T + 20) → k (dL (g.map dI)) (cs.set a (.lst ts'))
def g_law_menu (K : PySem.W.Frag) : Sg := sg3 fun x y z cs k _ => ∃ (a : Addr) (ts : List Ty) (T : Nat) (g : List Int) (q : Int), x = dR a ∧ y = dL (g.map dI) ∧ z = dI q ∧ cs a = some (.lst ts) ∧ Src ts T ∧ T + 20 < 1000000 ∧ g.Nodup ∧ 2 ≤ g.length ∧ g.length ≤ 12 ∧ ∀ (m : List Int) ts', m.Nodup → m ≠ [] → (∀ z ∈ m, z ∈ g) → Src ts' (T + 20) → k (dL (m.map dI)) (cs.set a (.lst ts'))
def g_law_cost (K : PySem.W.Frag) : Sg := sg1 fun x cs k _ => ∃ (a : Addr) (ts : List Ty) (T : Nat), x = dR a ∧ cs a = some (.lst ts) ∧ Src ts T ∧ T + 2 < 1000000 ∧ ∀ (v : Int) ts', 0 ≤ v → v ≤ 1000000000 → Src ts' (T + 2) → k (dI v) (cs.set a (.lst ts'))
def g_law_row (K : PySem.W.Frag) : Sg := sg3 fun x y z cs k _ => ∃ (a : Addr) (ts : List Ty) (T : Nat) (n : Int) (f : Bool), x = dR a ∧ y = dI n ∧ z = dB f ∧ cs a = some (.lst ts) ∧ Src ts T ∧ T + 50 < 1000000 ∧ 2 ≤ n ∧ n ≤ 12 ∧ ∀ (r : RowD) ts', r.Ok n → Src ts' (T + 50) → k (rowT r) (cs.set a (.lst ts'))
def g_law_rows (K : PySem.W.Frag) : Sg := sg4 fun x y z w cs k _ => ∃ (a : Addr) (ts : List Ty) (T : Nat) (n q : Int) (f : Bool), x = dR a ∧ y = dI n ∧ z = dI q ∧ w = dB f ∧ cs a = some (.lst ts) ∧ Src ts T ∧ T + 1000 < 1000000 ∧ 1 ≤ n ∧ n ≤ 12 ∧ 0 ≤ q ∧ q ≤ 8 ∧ ∀ (rs : List RowD) ts', rs.length ≤ 8 → (∀ r ∈ rs, r.Ok n) → Src ts' (T + 1000) → k (dL (rs.map rowT)) (cs.set a (.lst ts'))
def g_law_lot_text (K : PySem.W.Frag) : Sg := sg1 fun x cs k _ => ∃ r : RowD, x = rowT r ∧ r.Ok 12 ∧ k (dS (lotTxt r.lot)) cs
def g_law_lot (K : PySem.W.Frag) : Sg := sg1 fun x cs k _ => ∃ r : RowD, x = rowT r ∧ r.Ok 12 ∧ k (lotT K r.lot) cs
def g_law_network (K : PySem.W.Frag) : Sg := sg2 fun x y cs k _ => ∃ (n : Int) (rs : List RowD), x = dI n ∧ y = dL (rs.map rowT) ∧ 1 ≤ n ∧ n ≤ 12 ∧ rs.length ≤ 40 ∧ (∀ r ∈ rs, r.Ok n) ∧ k (netT K n (rs.map RowD.lot)) cs
def g_law_mode (K : PySem.W.Frag) : Sg := sg1 fun x cs k _ => ∃ b : Bool, x = dS (modeN b) ∧ k (modeT K b) cs
def g_law_demand (K : PySem.W.Frag) : Sg := sg3 fun x y z cs k _ => ∃ (r c : Int) (b : Bool), x = dI r ∧ y = dI c ∧ z = dS (modeN b) ∧ 0 ≤ r ∧ r < 12 ∧ 0 ≤ c ∧ c ≤ 8 ∧ k (demT K r c b) cs
def g_law_lot_is (K : PySem.W.Frag) : Sg := sg2 fun x y cs k _ => ∃ r : RowD, x = lotT K r.lot ∧ y = rowT r ∧ r.Ok 12 ∧ k (dB true) cs
def g_law_network_is (K : PySem.W.Frag) : Sg := sg3 fun x y z cs k _ => ∃ (n : Int) (rs : List RowD), x = netT K n (rs.map RowD.lot) ∧ y = dI n ∧ z = dL (rs.map rowT) ∧ rs.length ≤ 40 ∧ (∀ r ∈ rs, r.Ok 12) ∧ k (dB true) cs
def g_law_demand_is (K : PySem.W.Frag) : Sg := sg4 fun x y z w cs k _ => ∃ (r c : Int) (b : Bool), x = demT K r c b ∧ y = dI r ∧ z = dI c ∧ w = dS (modeN b) ∧ k (dB true) cs
def g_law_true (K : PySem.W.Frag) : Sg := sg1 fun x cs k _ => ∃ b : Bool, x = dB b ∧ k (dB b) cs
def g_law_repeated (K : PySem.W.Frag) : Sg := sg2 fun x y cs k _ => ∃ (a : Addr) (ts : List Ty) (T : Nat) (rs : List RowD), x = dR a ∧ y = dL (rs.map rowT) ∧ cs a = some (.lst ts) ∧ Src ts T ∧ T + 2 < 1000000 ∧ rs.length ≤ 8 ∧ ∀ (rs' : List RowD) ts', rs'.length ≤ 40 → (∀ r ∈ rs', r ∈ rs) → Src ts' (T + 2) → k (dL (rs'.map rowT)) (cs.set a (.lst ts'))
def g_law_network_text (K : PySem.W.Frag) : Sg := sg5 fun x y z w v cs k _ => ∃ c : CaseD, c.Ok ∧ x = dI c.n ∧ y = dI c.top ∧ z = dI c.many ∧ w = dS (modeN c.b) ∧ v = dL (c.rows.map rowT) ∧ k (dS (netTxt c.n c.top c.many c.b c.lots)) cs
def g_law_case (K : PySem.W.Frag) : Sg := sg1 fun x cs k _ => ∃ (a : Addr) (ts : List Ty) (T : Nat), x = dR a ∧ cs a = some (.lst ts) ∧ Src ts T ∧ T + 1010 < 1000000 ∧ ∀ (c : CaseD) ts', c.Ok → Src ts' (T + 1010) → k (caseT c) (cs.set a (.lst ts'))
def g_law_back (K : PySem.W.Frag) : Sg := sg1 fun x cs k _ => ∃ c : CaseD, x = caseT c ∧ c.Ok ∧ k (dB true) cs
def g_law_refused (K : PySem.W.Frag) : Sg := sg2 fun x y cs k _ => ∃ (n r c : Int) (b : Bool) (ls : List LotD), x = netT K n ls ∧ y = demT K r c b ∧ 1 ≤ n ∧ n ≤ 12 ∧ ls.length ≤ 40 ∧ (∀ l ∈ ls, l.Ok 12) ∧ n ≤ r ∧ r < 12 ∧ 0 ≤ c ∧ c ≤ 8 ∧ k (dT [dS "refused", dI r]) cs
def g_law (K : PySem.W.Frag) : Sg := sg1 fun x cs k _ => ∃ ns : List Int, x = dKs K (ns.map dI) ∧ Small ns ∧ ∀ cs', k (dB true) cs'
end K63

set_option Elab.async false
set_option linter.all false
set_option maxRecDepth 100000
set_option maxHeartbeats 4000000
set_option autoImplicit false
namespace K63
open PySem PySem.Spec PyProof.Rows L2 S
def t_all_different (K : PySem.W.Frag) (E : XK) : TS :=
  (tSeq (tFor (iRng1 (tCons (tCB (rLenA K) (tCons (tVar 0) tNil)) tNil)) (gName 1) (tIfS (tTest (tOp (rInA K) (tOp (rIx K) (tVar 0) (tVar 1)) (tSl (rSlA K) (tVar 0) tNoPart (tPart (tVar 1))))) (tRet (tC (.bl false))) tNext)) (tRet (tC (.bl true))))
def t_Lot_init (K : PySem.W.Frag) (E : XK) : TS :=
  (tSeq (tIfS (tOr (tTest (tOp rLtI (tCB (rLenA K) (tCons (tVar 1) tNil)) (tC (.int 2)))) (tNot (tTruA K (tCall (toSp (g_all_different K)) [] E0 (tCons (tVar 1) tNil))))) tBad tNext) (tSeq (tFor (iSeq K (tVar 1)) (gName 4) (tIfS (tNot (tTest (tChain rLeI rLtI (tC (.int 0)) (tVar 4) (tC (.int 12))))) tBad tNext)) (tSeq (tIfS (tTest (tOp rIsNA (tVar 2) (tC .non))) (tAsg (tVar 1) (gName 2)) tNext) (tSeq (tIfS (tOr (tTest (tOp (rEqA K) (tCB (rLenA K) (tCons (tVar 2) tNil)) (tC (.int 0)))) (tNot (tTruA K (tCall (toSp (g_all_different K)) [] E0 (tCons (tVar 2) tNil))))) tBad tNext) (tSeq (tFor (iSeq K (tVar 2)) (gName 4) (tIfS (tTest (tOp (rNiA K) (tVar 4) (tVar 1))) tBad tNext)) (tSeq (tIfS (tNot (tTest (tChain rLeI rLeI (tC (.int 0)) (tVar 3) (tC (.int 1000000000))))) tBad tNext) (tSeq (sFld K (tVar 0) (tCB (rTupA K) (tCons (tCB (rSortedI K) (tCons (tVar 1) tNil)) tNil)) "members") (tSeq (sFld K (tVar 0) (tCB (rTupA K) (tCons (tCB (rSortedI K) (tCons (tVar 2) tNil)) tNil)) "candidates") (sFld K (tVar 0) (tVar 3) "price")))))))))
def t_check_place (K : PySem.W.Frag) (E : XK) : TS :=
  (tIfS (tNot (tTest (tChain rLeI rLtI (tC (.int 0)) (tVar 1) (tVar 0)))) (tRaiseO E (He.ga K "PlaceOutOfRange") (spExc K (He.ga K "PlaceOutOfRange") "place") (tCons (tVar 1) tNil)) tNext)
def t_check_size (K : PySem.W.Frag) (E : XK) : TS :=
  (tIfS (tNot (tTest (tChain rLeI rLeI (tC (.int 1)) (tVar 0) (tC (.int 12))))) tBad tNext)
def t_Network_init (K : PySem.W.Frag) (E : XK) : TS :=
  (tSeq (tDrop (tCall (toSp (g_check_size K)) [] E0 (tCons (tVar 1) tNil))) (tSeq (tIfS (tTest (tOp rGtI (tCB (rLenA K) (tCons (tVar 2) tNil)) (tC (.int 40)))) tBad tNext) (tSeq (tFor (iSeq K (tVar 2)) (gName 3) (tFor (iSeq K (tFld K (tVar 3) "members")) (gName 4) (tDrop (tCall (toSp (g_check_place K)) [] E0 (tCons (tVar 1) (tCons (tVar 4) tNil)))))) (tSeq (sFld K (tVar 0) (tVar 1) "size") (sFld K (tVar 0) (tCB (rTupA K) (tCons (tVar 2) tNil)) "lots")))))
def t_Demand_init (K : PySem.W.Frag) (E : XK) : TS :=
  (tSeq (tDrop (tCall (toSp (g_check_place K)) [] E0 (tCons (tC (.int 12)) (tCons (tVar 1) tNil)))) (tSeq (tIfS (tNot (tTest (tChain rLeI rLeI (tC (.int 0)) (tVar 2) (tC (.int 8))))) tBad tNext) (tSeq (sFld K (tVar 0) (tVar 1) "root") (tSeq (sFld K (tVar 0) (tVar 2) "count") (tSeq (sFld K (tVar 0) (tVar 3) "mode") (sFld K (tVar 0) (tCon K (tVar 3) "NAME") "_name"))))))
def t_number_in (K : PySem.W.Frag) (E : XK) : TS :=
  (tSeq (tIfS (tOr (tTest (tOp (rEqA K) (tVar 0) (tC (.str "")))) (tTest (tOp rGtI (tCB (rLenA K) (tCons (tVar 0) tNil)) (tC (.int 10))))) (tRet (tC .non)) tNext) (tSeq (tFor (iStr (tVar 0)) (gName 3) (tIfS (tTest (tOp (rNiA K) (tVar 3) (tC (.str "0123456789")))) (tRet (tC .non)) tNext)) (tSeq (tIfS (tAnd (tTest (tOp (rEqA K) (tOp (rIx K) (tVar 0) (tC (.int 0))) (tC (.str "0")))) (tTest (tOp rGtI (tCB (rLenA K) (tCons (tVar 0) tNil)) (tC (.int 1))))) (tRet (tC .non)) tNext) (tSeq (tAsg (tCB rIntA (tCons (tVar 0) tNil)) (gName 4)) (tSeq (tIfS (tOr (tTest (tOp rLtI (tVar 4) (tVar 1))) (tTest (tOp rGtI (tVar 4) (tVar 2)))) (tRet (tC .non)) tNext) (tRet (tVar 4)))))))
def t_Lot_str (K : PySem.W.Frag) (E : XK) : TS :=
  (tSeq (tAsg (tLst (tCons (tM1 (rJoin K) (tC (.str " ")) (tLc (iSeq K (tFld K (tVar 0) "members")) (gName 2) tYes (tCB rStrI (tCons (tVar 2) tNil)) [2])) tNil)) (gName 1)) (tSeq (tIfS (tTest (tOp (rNeA K) (tFld K (tVar 0) "candidates") (tFld K (tVar 0) "members"))) (tDrop (tBM K "list" rAppend (tVar 1) (tCons (tOp (rAddA K) (tC (.str "heads ")) (tM1 (rJoin K) (tC (.str " ")) (tLc (iSeq K (tFld K (tVar 0) "candidates")) (gName 2) tYes (tCB rStrI (tCons (tVar 2) tNil)) [2]))) tNil))) tNext) (tSeq (tIfS (tTest (tOp (rNeA K) (tFld K (tVar 0) "price") (tC (.int 0)))) (tDrop (tBM K "list" rAppend (tVar 1) (tCons (tOp (rAddA K) (tC (.str "price ")) (tCB rStrI (tCons (tFld K (tVar 0) "price") tNil))) tNil))) tNext) (tRet (tM1 (rJoin K) (tC (.str " ")) (tVar 1))))))
def t_write_network (K : PySem.W.Frag) (E : XK) : TS :=
  (tSeq (tDrop (tCall (toSp (g_check_place K)) [] E (tCons (tFld K (tVar 0) "size") (tCons (tFld K (tVar 1) "root") tNil)))) (tSeq (tAsg (tLst (tCons (tFstr [(tC (.str "places ")), (tFmt (tFld K (tVar 0) "size"))]) (tCons (tFstr [(tC (.str "root ")), (tFmt (tFld K (tVar 1) "root"))]) (tCons (tFstr [(tC (.str "count ")), (tFmt (tFld K (tVar 1) "count"))]) tNil)))) (gName 2)) (tSeq (tDrop (tBM K "list" rAppend (tVar 2) (tCons (tOp (rAddA K) (tC (.str "mode ")) (tCon K (tFld K (tVar 1) "mode") "NAME")) tNil))) (tSeq (tFor (iSeq K (tFld K (tVar 0) "lots")) (gName 3) (tDrop (tBM K "list" rAppend (tVar 2) (tCons (tOp (rAddA K) (tC (.str "lot ")) (tCB (rStrO (He.ga K "Lot") (toSp (g_Lot_str K))) (tCons (tVar 3) tNil))) tNil)))) (tRet (tM1 (rJoin K) (tC (.str "\n")) (tVar 2)))))))
def t_named_number (K : PySem.W.Frag) (E : XK) : TS :=
  (tSeq (tIfS (tTest (tOp rGeI (tVar 1) (tCB (rLenA K) (tCons (tVar 0) tNil)))) tBad tNext) (tSeq (tAsg (tM1 rSplit (tOp (rIx K) (tVar 0) (tVar 1)) (tC (.str " "))) (gName 5)) (tSeq (tIfS (tOr (tTest (tOp (rNeA K) (tCB (rLenA K) (tCons (tVar 5) tNil)) (tC (.int 2)))) (tTest (tOp (rNeA K) (tOp (rIx K) (tVar 5) (tC (.int 0))) (tVar 2)))) tBad tNext) (tSeq (tAsg (tCall (toSp (g_number_in K)) [] E0 (tCons (tOp (rIx K) (tVar 5) (tC (.int 1))) (tCons (tVar 3) (tCons (tVar 4) tNil)))) (gName 6)) (tSeq (tIfS (tTest (tOp rIsNA (tVar 6) (tC .non))) tBad tNext) (tRet (tVar 6)))))))
def t_mode_in (K : PySem.W.Frag) (E : XK) : TS :=
  (tSeq (tIfS (tAnd (tTest (tOp rLtI (tVar 1) (tCB (rLenA K) (tCons (tVar 0) tNil)))) (tTest (tOp (rEqA K) (tOp (rIx K) (tVar 0) (tVar 1)) (tOp (rAddA K) (tC (.str "mode ")) (ClX.tCVal K (tC (.ref (He.ga K "Gather"))) "NAME"))))) (tRet (tMk0 (He.ga K "Gather"))) tNext) (tSeq (tIfS (tAnd (tTest (tOp rLtI (tVar 1) (tCB (rLenA K) (tCons (tVar 0) tNil)))) (tTest (tOp (rEqA K) (tOp (rIx K) (tVar 0) (tVar 1)) (tOp (rAddA K) (tC (.str "mode ")) (ClX.tCVal K (tC (.ref (He.ga K "Spread"))) "NAME"))))) (tRet (tMk0 (He.ga K "Spread"))) tNext) tBad))
def t_leading_places (K : PySem.W.Frag) (E : XK) : TS :=
  (tSeq (tAsg (tLst tNil) (gName 2)) (tSeq (tWhile (tAnd (tTest (tOp rLtI (tVar 1) (tCB (rLenA K) (tCons (tVar 0) tNil)))) (tTest (tOp rNotNA (tCall (toSp (g_number_in K)) [] E0 (tCons (tOp (rIx K) (tVar 0) (tVar 1)) (tCons (tC (.int 0)) (tCons (tOp rSubI (tC (.int 12)) (tC (.int 1))) tNil)))) (tC .non)))) (tSeq (tDrop (tBM K "list" rAppend (tVar 2) (tCons (tCB rIntA (tCons (tOp (rIx K) (tVar 0) (tVar 1)) tNil)) tNil))) (tAug 1 (tC (.int 1)) (ipI fun i j => i + j)))) (tRet (tTup (tCons (tVar 2) (tCons (tVar 1) tNil))))))
def t_lot_in (K : PySem.W.Frag) (E : XK) : TS :=
  (tSeq (tAsg (tM1 rSplit (tVar 0) (tC (.str " "))) (gName 3)) (tSeq (tAsg (tCall (toSp (g_leading_places K)) [] E0 (tCons (tVar 3) (tCons (tC (.int 1)) tNil))) (gTup K 2 (gCons (gName 4) (gCons (gName 5) gNil)))) (tSeq (tAsg (tC .non) (gName 6)) (tSeq (tIfS (tAnd (tTest (tOp rLtI (tVar 5) (tCB (rLenA K) (tCons (tVar 3) tNil)))) (tTest (tOp (rEqA K) (tOp (rIx K) (tVar 3) (tVar 5)) (tC (.str "heads"))))) (tAsg (tCall (toSp (g_leading_places K)) [] E0 (tCons (tVar 3) (tCons (tOp (rAddA K) (tVar 5) (tC (.int 1))) tNil))) (gTup K 2 (gCons (gName 6) (gCons (gName 5) gNil)))) tNext) (tSeq (tAsg (tC .non) (gName 7)) (tSeq (tIfS (tTest (tOp rLtI (tVar 5) (tCB (rLenA K) (tCons (tVar 3) tNil)))) (tAsg (tCall (toSp (g_number_in K)) [] E0 (tCons (tOp (rIx K) (tVar 3) (tUn rNegI (tC (.int 1)))) (tCons (tC (.int 1)) (tCons (tC (.int 1000000000)) tNil)))) (gName 7)) tNext) (tSeq (tAsg (tMake (He.ga K "Lot") (toSp (g_Lot_init K)) [] E0 (tCons (tVar 4) (tCons (tVar 6) (tCons (tIf (tTest (tOp rIsNA (tVar 7) (tC .non))) (tC (.int 0)) (tVar 7)) tNil)))) (gName 8)) (tSeq (tIfS (tOr (tTest (tOp (rNeA K) (tOp (rAddA K) (tC (.str "lot ")) (tCB (rStrO (He.ga K "Lot") (toSp (g_Lot_str K))) (tCons (tVar 8) tNil))) (tVar 0))) (tTest (tOp rGeI (tOp (rIx K) (tFld K (tVar 8) "members") (tUn rNegI (tC (.int 1)))) (tVar 1)))) tBad tNext) (tRet (tVar 8))))))))))
def t_read_network (K : PySem.W.Frag) (E : XK) : TS :=
  (tSeq (tAsg (tM1 rSplit (tVar 0) (tC (.str "\n"))) (gName 1)) (tSeq (tAsg (tCall (toSp (g_named_number K)) [] E0 (tCons (tVar 1) (tCons (tC (.int 0)) (tCons (tC (.str "places")) (tCons (tC (.int 1)) (tCons (tC (.int 12)) tNil)))))) (gName 2)) (tSeq (tAsg (tCall (toSp (g_named_number K)) [] E0 (tCons (tVar 1) (tCons (tC (.int 1)) (tCons (tC (.str "root")) (tCons (tC (.int 0)) (tCons (tOp rSubI (tVar 2) (tC (.int 1))) tNil)))))) (gName 3)) (tSeq (tAsg (tCall (toSp (g_named_number K)) [] E0 (tCons (tVar 1) (tCons (tC (.int 2)) (tCons (tC (.str "count")) (tCons (tC (.int 0)) (tCons (tC (.int 8)) tNil)))))) (gName 4)) (tSeq (tAsg (tCall (toSp (g_mode_in K)) [] E0 (tCons (tVar 1) (tCons (tC (.int 3)) tNil))) (gName 5)) (tSeq (tAsg (tLst tNil) (gName 6)) (tSeq (tFor (iRng2 (tCons (tC (.int 4)) (tCons (tCB (rLenA K) (tCons (tVar 1) tNil)) tNil))) (gName 7) (tSeq (tIfS (tTest (tOp (rEqA K) (tCB (rLenA K) (tCons (tVar 6) tNil)) (tC (.int 40)))) tBad tNext) (tDrop (tBM K "list" rAppend (tVar 6) (tCons (tCall (toSp (g_lot_in K)) [] E0 (tCons (tOp (rIx K) (tVar 1) (tVar 7)) (tCons (tVar 2) (tCons (tOp (rAddA K) (tVar 7) (tC (.int 1))) tNil)))) tNil))))) (tRet (tTup (tCons (tMake (He.ga K "Network") (toSp (g_Network_init K)) [] E0 (tCons (tVar 2) (tCons (tVar 6) tNil))) (tCons (tMake (He.ga K "Demand") (toSp (g_Demand_init K)) [] E0 (tCons (tVar 3) (tCons (tVar 4) (tCons (tVar 5) tNil)))) tNil)))))))))))
def t_law_source (K : PySem.W.Frag) (E : XK) : TS :=
  (tRet (tLst (tCons (tCB (rListA K) (tCons (tVar 0) tNil)) (tCons (tC (.int 0)) (tCons (tC (.int 0)) (tCons (tC (.int 0)) (tCons (tC (.int 0)) (tCons (tC (.bl false)) tNil))))))))
def t_law_mixed (K : PySem.W.Frag) (E : XK) : TS :=
  (tSeq (tAsg (tOp rModI (tCB rIntA (tCons (tOp (rAddA K) (tOp (rAddA K) (tOp rMulA (tVar 0) (tC (.int 48271))) (tOp rMulA (tVar 1) (tC (.int 69621)))) (tC (.int 11))) tNil)) (tC (.int 2147483647))) (gName 2)) (tSeq (tAsg (tOp rModI (tCB rIntA (tCons (tOp (rAddA K) (tOp (rAddA K) (tOp rMulA (tVar 2) (tC (.int 16807))) (tOp rDivI (tVar 2) (tC (.int 3)))) (tOp rMulA (tVar 1) (tC (.int 40692)))) tNil)) (tC (.int 2147483399))) (gName 3)) (tRet (tOp rModI (tCB rIntA (tCons (tOp (rAddA K) (tOp rMulA (tVar 3) (tVar 3)) (tVar 2)) tNil)) (tC (.int 2147483629))))))
def t_law_draw (K : PySem.W.Frag) (E : XK) : TS :=
  (tSeq (tIfS (tTest (tOp (rEqA K) (tOp (rIx K) (tVar 0) (tC (.int 3))) (tC (.int 0)))) (tSeq (tIfS (tTest (tOp rGeI (tOp (rIx K) (tVar 0) (tC (.int 1))) (tCB (rLenA K) (tCons (tOp (rIx K) (tVar 0) (tC (.int 0))) tNil)))) (tRet (tC (.int 0))) tNext) (tSeq (tAsg (tOp (rIx K) (tOp (rIx K) (tVar 0) (tC (.int 0))) (tOp (rIx K) (tVar 0) (tC (.int 1)))) (gSub (tVar 0) (tC (.int 2)) rSetL)) (tSeq (tAsg (tOp (rAddA K) (tOp (rIx K) (tVar 0) (tC (.int 1))) (tC (.int 1))) (gSub (tVar 0) (tC (.int 1)) rSetL)) (tSeq (tAsg (tOp rGeI (tOp (rIx K) (tVar 0) (tC (.int 2))) (tOp rPowI (tC (.int 10)) (tC (.int 18)))) (gSub (tVar 0) (tC (.int 5)) rSetL)) (tSeq (tAsg (tC (.int 9)) (gSub (tVar 0) (tC (.int 3)) rSetL)) (tIfS (tTruA K (tOp (rIx K) (tVar 0) (tC (.int 5)))) (tAsg (tC (.int 60)) (gSub (tVar 0) (tC (.int 3)) rSetL)) tNext)))))) tNext) (tSeq (tAsg (tOp rSubI (tOp (rIx K) (tVar 0) (tC (.int 3))) (tC (.int 1))) (gSub (tVar 0) (tC (.int 3)) rSetL)) (tSeq (tAsg (tOp (rAddA K) (tOp (rIx K) (tVar 0) (tC (.int 4))) (tC (.int 1))) (gSub (tVar 0) (tC (.int 4)) rSetL)) (tSeq (tIfS (tNot (tTruA K (tOp (rIx K) (tVar 0) (tC (.int 5))))) (tRet (tOp rModI (tCB rIntA (tCons (tCall (toSp (g_law_mixed K)) [] E0 (tCons (tOp (rIx K) (tVar 0) (tC (.int 2))) (tCons (tOp (rIx K) (tVar 0) (tC (.int 4))) tNil))) tNil)) (tVar 1))) tNext) (tSeq (tAsg (tOp rModI (tCB rIntA (tCons (tOp (rIx K) (tVar 0) (tC (.int 2))) tNil)) (tVar 1)) (gName 2)) (tSeq (tAsg (tOp rDivI (tOp (rIx K) (tVar 0) (tC (.int 2))) (tVar 1)) (gSub (tVar 0) (tC (.int 2)) rSetL)) (tSeq (tIfS (tTest (tOp (rEqA K) (tOp (rIx K) (tVar 0) (tC (.int 2))) (tC (.int 0)))) (tAsg (tC (.int 0)) (gSub (tVar 0) (tC (.int 3)) rSetL)) tNext) (tRet (tVar 2)))))))))
def t_law_number (K : PySem.W.Frag) (E : XK) : TS :=
  (tRet (tAndV (tCB (rIsi K) (tCons (tVar 0) (tCons (tC (.ty "int")) tNil))) (tNotV (tCB (rIsi K) (tCons (tVar 0) (tCons (tC (.ty "bool")) tNil))))))
def t_law_same (K : PySem.W.Frag) (E : XK) (n : Nat) : TS :=
  (tSeq (tIfS (tTruA K (tCB (rIsi K) (tCons (tVar 1) (tCons (tC (.ty "bool")) tNil)))) (tRet (tAndV (tCB (rIsi K) (tCons (tVar 0) (tCons (tC (.ty "bool")) tNil))) (tOp (rEqA K) (tVar 0) (tVar 1)))) tNext) (tSeq (tIfS (tTruA K (tCB (rIsi K) (tCons (tVar 1) (tCons (tC (.ty "int")) tNil)))) (tRet (tAndV (tCall (toSp (g_law_number K)) [] E0 (tCons (tVar 0) tNil)) (tOp (rEqA K) (tVar 0) (tVar 1)))) tNext) (tSeq (tIfS (tTruA K (tCB (rIsi K) (tCons (tVar 1) (tCons (tC (.ty "str")) tNil)))) (tRet (tAndV (tCB (rIsi K) (tCons (tVar 0) (tCons (tC (.ty "str")) tNil))) (tOp (rEqA K) (tVar 0) (tVar 1)))) tNext) (tSeq (tIfS (tTest (tOp rIsNA (tVar 1) (tC .non))) (tRet (tOp rIsNA (tVar 0) (tC .non))) tNext) (tSeq (tIfS (tAnd (tTruA K (tCB (rIsi K) (tCons (tVar 1) (tCons (tC (.ty "tuple")) tNil)))) (tNot (tTruA K (tCB (rIsi K) (tCons (tVar 0) (tCons (tC (.ty "tuple")) tNil)))))) (tRet (tC (.bl false))) tNext) (tSeq (tIfS (tAnd (tTruA K (tCB (rIsi K) (tCons (tVar 1) (tCons (tC (.ty "list")) tNil)))) (tNot (tTruA K (tCB (rIsi K) (tCons (tVar 0) (tCons (tC (.ty "list")) tNil)))))) (tRet (tC (.bl false))) tNext) (tSeq (tIfS (tTest (tOp (rNeA K) (tCB (rLenA K) (tCons (tVar 0) tNil)) (tCB (rLenA K) (tCons (tVar 1) tNil)))) (tRet (tC (.bl false))) tNext) (tSeq (tFor (iRng1 (tCons (tCB (rLenA K) (tCons (tVar 1) tNil)) tNil)) (gName 2) (tIfS (tNot (tTruA K (tCall (toSp (g_law_same K n)) [] E0 (tCons (tOp (rIx K) (tVar 0) (tVar 2)) (tCons (tOp (rIx K) (tVar 1) (tVar 2)) tNil))))) (tRet (tC (.bl false))) tNext)) (tRet (tC (.bl true)))))))))))
def t_law_pick (K : PySem.W.Frag) (E : XK) : TS :=
  (tRet (tOp (rIx K) (tVar 1) (tCall (toSp (g_law_draw K)) [] E0 (tCons (tVar 0) (tCons (tCB (rLenA K) (tCons (tVar 1) tNil)) tNil)))))
def t_law_shuffled (K : PySem.W.Frag) (E : XK) : TS :=
  (tSeq (tAsg (tCB (rListA K) (tCons (tVar 1) tNil)) (gName 2)) (tSeq (tAsg (tLst tNil) (gName 3)) (tSeq (tFor (iRng1 (tCons (tCB (rLenA K) (tCons (tVar 1) tNil)) tNil)) (gName 4) (tDrop (tBM K "list" rAppend (tVar 3) (tCons (tBM K "list" rPopAt (tVar 2) (tCons (tCall (toSp (g_law_draw K)) [] E0 (tCons (tVar 0) (tCons (tCB (rLenA K) (tCons (tVar 2) tNil)) tNil))) tNil)) tNil)))) (tRet (tVar 3)))))
def t_law_group (K : PySem.W.Frag) (E : XK) : TS :=
  (tSeq (tAsg (tCall (toSp (g_law_shuffled K)) [] E0 (tCons (tVar 0) (tCons (tLstRg (tRg1 (tVar 1))) tNil))) (gName 2)) (tRet (tSl (rSlA K) (tVar 2) tNoPart (tPart (tOp (rAddA K) (tC (.int 2)) (tCall (toSp (g_law_draw K)) [] E0 (tCons (tVar 0) (tCons (tOp rSubI (tVar 1) (tC (.int 1))) tNil))))))))
def t_law_menu (K : PySem.W.Frag) (E : XK) : TS :=
  (tSeq (tIfS (tTest (tOp (rEqA K) (tVar 2) (tC (.int 0)))) (tRet (tCB (rListA K) (tCons (tVar 1) tNil))) tNext) (tSeq (tIfS (tTest (tOp (rEqA K) (tVar 2) (tC (.int 1)))) (tRet (tLst (tCons (tCall (toSp (g_law_pick K)) [] E0 (tCons (tVar 0) (tCons (tVar 1) tNil))) tNil))) tNext) (tRet (tSl (rSlA K) (tCall (toSp (g_law_shuffled K)) [] E0 (tCons (tVar 0) (tCons (tVar 1) tNil))) tNoPart (tPart (tOp (rAddA K) (tC (.int 1)) (tCall (toSp (g_law_draw K)) [] E0 (tCons (tVar 0) (tCons (tCB (rLenA K) (tCons (tVar 1) tNil)) tNil)))))))))
def t_law_cost (K : PySem.W.Frag) (E : XK) : TS :=
  (tSeq (tAsg (tCall (toSp (g_law_draw K)) [] E0 (tCons (tVar 0) (tCons (tC (.int 4)) tNil))) (gName 1)) (tSeq (tIfS (tTest (tOp (rEqA K) (tVar 1) (tC (.int 0)))) (tRet (tC (.int 0))) tNext) (tSeq (tIfS (tTest (tOp (rEqA K) (tVar 1) (tC (.int 1)))) (tRet (tOp rSubI (tOp rPowI (tC (.int 10)) (tC (.int 9))) (tCall (toSp (g_law_draw K)) [] E0 (tCons (tVar 0) (tCons (tC (.int 3)) tNil))))) tNext) (tSeq (tIfS (tTest (tOp (rEqA K) (tVar 1) (tC (.int 2)))) (tRet (tOp (rAddA K) (tC (.int 1)) (tCall (toSp (g_law_draw K)) [] E0 (tCons (tVar 0) (tCons (tC (.int 5)) tNil))))) tNext) (tRet (tCall (toSp (g_law_draw K)) [] E0 (tCons (tVar 0) (tCons (tOp (rAddA K) (tOp rPowI (tC (.int 10)) (tC (.int 9))) (tC (.int 1))) tNil))))))))
def t_law_row (K : PySem.W.Frag) (E : XK) : TS :=
  (tSeq (tAsg (tCall (toSp (g_law_group K)) [] E0 (tCons (tVar 0) (tCons (tVar 1) tNil))) (gName 3)) (tSeq (tAsg (tC (.int 0)) (gName 4)) (tSeq (tIfS (tNot (tTruA K (tVar 2))) (tAsg (tCall (toSp (g_law_draw K)) [] E0 (tCons (tVar 0) (tCons (tC (.int 3)) tNil))) (gName 4)) tNext) (tRet (tTup (tCons (tVar 3) (tCons (tCall (toSp (g_law_menu K)) [] E0 (tCons (tVar 0) (tCons (tVar 3) (tCons (tVar 4) tNil)))) (tCons (tCall (toSp (g_law_cost K)) [] E0 (tCons (tVar 0) tNil)) tNil))))))))
def t_law_rows (K : PySem.W.Frag) (E : XK) : TS :=
  (tSeq (tIfS (tTest (tOp rLtI (tVar 1) (tC (.int 2)))) (tRet (tLst tNil)) tNext) (tRet (tLc (iRng1 (tCons (tCall (toSp (g_law_draw K)) [] E0 (tCons (tVar 0) (tCons (tOp (rAddA K) (tVar 2) (tC (.int 1))) tNil))) tNil)) (gName 4) tYes (tCall (toSp (g_law_row K)) [] E0 (tCons (tVar 0) (tCons (tVar 1) (tCons (tVar 3) tNil)))) [4])))
def t_law_lot_text (K : PySem.W.Frag) (E : XK) : TS :=
  (tSeq (tAsg (tCB (rSortedI K) (tCons (tOp (rIx K) (tVar 0) (tC (.int 0))) tNil)) (gName 1)) (tSeq (tAsg (tCB (rSortedI K) (tCons (tOp (rIx K) (tVar 0) (tC (.int 1))) tNil)) (gName 2)) (tSeq (tAsg (tM1 (rJoin K) (tC (.str " ")) (tLc (iSeq K (tVar 1)) (gName 4) tYes (tCB rStrI (tCons (tVar 4) tNil)) [4])) (gName 3)) (tSeq (tIfS (tTest (tOp (rNeA K) (tVar 2) (tVar 1))) (tAsg (tOp (rAddA K) (tOp (rAddA K) (tVar 3) (tC (.str " heads "))) (tM1 (rJoin K) (tC (.str " ")) (tLc (iSeq K (tVar 2)) (gName 4) tYes (tCB rStrI (tCons (tVar 4) tNil)) [4]))) (gName 3)) tNext) (tSeq (tIfS (tTest (tOp (rNeA K) (tOp (rIx K) (tVar 0) (tC (.int 2))) (tC (.int 0)))) (tAsg (tOp (rAddA K) (tOp (rAddA K) (tVar 3) (tC (.str " price "))) (tCB rStrI (tCons (tOp (rIx K) (tVar 0) (tC (.int 2))) tNil))) (gName 3)) tNext) (tRet (tVar 3)))))))
def t_law_lot (K : PySem.W.Frag) (E : XK) : TS :=
  (tRet (tMake (He.ga K "Lot") (toSp (g_Lot_init K)) [] E0 (tCons (tCB (rListA K) (tCons (tOp (rIx K) (tVar 0) (tC (.int 0))) tNil)) (tCons (tCB (rListA K) (tCons (tOp (rIx K) (tVar 0) (tC (.int 1))) tNil)) (tCons (tOp (rIx K) (tVar 0) (tC (.int 2))) tNil)))))
def t_law_network (K : PySem.W.Frag) (E : XK) : TS :=
  (tRet (tMake (He.ga K "Network") (toSp (g_Network_init K)) [] E0 (tCons (tVar 0) (tCons (tLc (iSeq K (tVar 1)) (gName 2) tYes (tCall (toSp (g_law_lot K)) [] E0 (tCons (tVar 2) tNil)) [2]) tNil))))
def t_law_mode (K : PySem.W.Frag) (E : XK) : TS :=
  (tSeq (tIfS (tTest (tOp (rEqA K) (tVar 0) (tC (.str "gather")))) (tRet (tMk0 (He.ga K "Gather"))) tNext) (tRet (tMk0 (He.ga K "Spread"))))
def t_law_demand (K : PySem.W.Frag) (E : XK) : TS :=
  (tRet (tMake (He.ga K "Demand") (toSp (g_Demand_init K)) [] E0 (tCons (tVar 0) (tCons (tVar 1) (tCons (tCall (toSp (g_law_mode K)) [] E0 (tCons (tVar 2) tNil)) tNil)))))
def t_law_lot_is (K : PySem.W.Frag) (E : XK) : TS :=
  (tSeq (tIfS (tOr (tNot (tTruA K (tCall (toSp (g_law_same K 3)) [] E0 (tCons (tFld K (tVar 0) "members") (tCons (tCB (rTupA K) (tCons (tCB (rSortedI K) (tCons (tOp (rIx K) (tVar 1) (tC (.int 0))) tNil)) tNil)) tNil))))) (tNot (tTruA K (tCall (toSp (g_law_same K 3)) [] E0 (tCons (tFld K (tVar 0) "price") (tCons (tOp (rIx K) (tVar 1) (tC (.int 2))) tNil)))))) (tRet (tC (.bl false))) tNext) (tRet (tCall (toSp (g_law_same K 3)) [] E0 (tCons (tFld K (tVar 0) "candidates") (tCons (tCB (rTupA K) (tCons (tCB (rSortedI K) (tCons (tOp (rIx K) (tVar 1) (tC (.int 1))) tNil)) tNil)) tNil)))))
def t_law_network_is (K : PySem.W.Frag) (E : XK) : TS :=
  (tSeq (tIfS (tOr (tNot (tTruA K (tCall (toSp (g_law_same K 3)) [] E0 (tCons (tFld K (tVar 0) "size") (tCons (tVar 1) tNil))))) (tOr (tNot (tTruA K (tCB (rIsi K) (tCons (tFld K (tVar 0) "lots") (tCons (tC (.ty "tuple")) tNil))))) (tTest (tOp (rNeA K) (tCB (rLenA K) (tCons (tFld K (tVar 0) "lots") tNil)) (tCB (rLenA K) (tCons (tVar 2) tNil)))))) (tRet (tC (.bl false))) tNext) (tRet (tOp (rEqA K) (tCB (rLenA K) (tCons (tLc (iRng1 (tCons (tCB (rLenA K) (tCons (tVar 2) tNil)) tNil)) (gName 3) (tNot (tTruA K (tCall (toSp (g_law_lot_is K)) [] E0 (tCons (tOp (rIx K) (tFld K (tVar 0) "lots") (tVar 3)) (tCons (tOp (rIx K) (tVar 2) (tVar 3)) tNil))))) (tVar 3) [3]) tNil)) (tC (.int 0)))))
def t_law_demand_is (K : PySem.W.Frag) (E : XK) : TS :=
  (tSeq (tIfS (tOr (tNot (tTruA K (tCall (toSp (g_law_same K 3)) [] E0 (tCons (tFld K (tVar 0) "root") (tCons (tVar 1) tNil))))) (tNot (tTruA K (tCall (toSp (g_law_same K 3)) [] E0 (tCons (tFld K (tVar 0) "count") (tCons (tVar 2) tNil)))))) (tRet (tC (.bl false))) tNext) (tRet (tCall (toSp (g_law_same K 3)) [] E0 (tCons (tCon K (tFld K (tVar 0) "mode") "NAME") (tCons (tVar 3) tNil)))))
def t_law_true (K : PySem.W.Frag) (E : XK) : TS :=
  (tSeq (tIfS (tTruA K (tVar 0)) (tRet (tC (.bl true))) tNext) (tRet (tC (.bl false))))
def t_law_repeated (K : PySem.W.Frag) (E : XK) : TS :=
  (tSeq (tIfS (tOr (tTest (tOp (rEqA K) (tCB (rLenA K) (tCons (tVar 1) tNil)) (tC (.int 0)))) (tTest (tOp (rNeA K) (tCall (toSp (g_law_draw K)) [] E0 (tCons (tVar 0) (tCons (tC (.int 4)) tNil))) (tC (.int 1))))) (tRet (tVar 1)) tNext) (tRet (tLc (iRng1 (tCons (tCall (toSp (g_law_draw K)) [] E0 (tCons (tVar 0) (tCons (tC (.int 41)) tNil))) tNil)) (gName 2) tYes (tOp (rIx K) (tVar 1) (tOp rModI (tVar 2) (tCB (rLenA K) (tCons (tVar 1) tNil)))) [2])))
def t_law_network_text (K : PySem.W.Frag) (E : XK) : TS :=
  (tSeq (tAsg (tLst (tCons (tOp (rAddA K) (tC (.str "places ")) (tCB rStrI (tCons (tVar 0) tNil))) (tCons (tOp (rAddA K) (tC (.str "root ")) (tCB rStrI (tCons (tVar 1) tNil))) (tCons (tOp (rAddA K) (tC (.str "count ")) (tCB rStrI (tCons (tVar 2) tNil))) (tCons (tOp (rAddA K) (tC (.str "mode ")) (tVar 3)) tNil))))) (gName 5)) (tRet (tM1 (rJoin K) (tC (.str "\n")) (tOp (rAddA K) (tVar 5) (tLc (iSeq K (tVar 4)) (gName 6) tYes (tOp (rAddA K) (tC (.str "lot ")) (tCall (toSp (g_law_lot_text K)) [] E0 (tCons (tVar 6) tNil))) [6])))))
def t_law_case (K : PySem.W.Frag) (E : XK) : TS :=
  (tSeq (tAsg (tOp (rAddA K) (tC (.int 1)) (tCall (toSp (g_law_draw K)) [] E0 (tCons (tVar 0) (tCons (tC (.int 12)) tNil)))) (gName 1)) (tSeq (tAsg (tCall (toSp (g_law_draw K)) [] E0 (tCons (tVar 0) (tCons (tVar 1) tNil))) (gName 2)) (tSeq (tAsg (tCall (toSp (g_law_draw K)) [] E0 (tCons (tVar 0) (tCons (tC (.int 9)) tNil))) (gName 3)) (tSeq (tAsg (tCall (toSp (g_law_pick K)) [] E0 (tCons (tVar 0) (tCons (tLst (tCons (tC (.str "gather")) (tCons (tC (.str "spread")) tNil))) tNil))) (gName 4)) (tSeq (tAsg (tCall (toSp (g_law_repeated K)) [] E0 (tCons (tVar 0) (tCons (tCall (toSp (g_law_rows K)) [] E0 (tCons (tVar 0) (tCons (tVar 1) (tCons (tC (.int 8)) (tCons (tOp (rEqA K) (tCall (toSp (g_law_draw K)) [] E0 (tCons (tVar 0) (tCons (tC (.int 4)) tNil))) (tC (.int 1))) tNil))))) tNil))) (gName 5)) (tRet (tTup (tCons (tVar 1) (tCons (tVar 2) (tCons (tVar 3) (tCons (tVar 4) (tCons (tVar 5) tNil))))))))))))
def t_Lot_eq (K : PySem.W.Frag) (E : XK) : TS :=
  (tSeq (tIfS (tNot (tTruA K (tCB (rIsi K) (tCons (tVar 1) (tCons (tC (.ref (He.ga K "Lot"))) tNil))))) tBad tNext) (tRet (tOp (rEqA K) (tTup (tCons (tFld K (tVar 0) "price") (tCons (tFld K (tVar 0) "members") (tCons (tFld K (tVar 0) "candidates") tNil)))) (tTup (tCons (tFld K (tVar 1) "price") (tCons (tFld K (tVar 1) "members") (tCons (tFld K (tVar 1) "candidates") tNil)))))))
def t_Network_eq (K : PySem.W.Frag) (E : XK) : TS :=
  (tRet (tAndV (tCB (rIsi K) (tCons (tVar 1) (tCons (tC (.ref (He.ga K "Network"))) tNil))) (tAndV (tOp (rEqA K) (tFld K (tVar 0) "size") (tFld K (tVar 1) "size")) (tOp (rEqG (DTup K (DOwn (He.ga K "Lot") (g_Lot_eq K)))) (tFld K (tVar 0) "lots") (tFld K (tVar 1) "lots")))))
def t_Demand_eq (K : PySem.W.Frag) (E : XK) : TS :=
  (tSeq (tIfS (tNot (tTruA K (tCB (rIsi K) (tCons (tVar 1) (tCons (tC (.ref (He.ga K "Demand"))) tNil))))) tBad tNext) (tRet (tOp (rEqA K) (tTup (tCons (tFld K (tVar 0) "root") (tCons (tFld K (tVar 0) "count") (tCons (tFld K (tVar 0) "_name") tNil)))) (tTup (tCons (tFld K (tVar 1) "root") (tCons (tFld K (tVar 1) "count") (tCons (tFld K (tVar 1) "_name") tNil)))))))
def t_law_back (K : PySem.W.Frag) (E : XK) : TS :=
  (tSeq (tAsg (tCall (toSp (g_law_network_text K)) [] E0 (tCons (tOp (rIx K) (tVar 0) (tC (.int 0))) (tCons (tOp (rIx K) (tVar 0) (tC (.int 1))) (tCons (tOp (rIx K) (tVar 0) (tC (.int 2))) (tCons (tOp (rIx K) (tVar 0) (tC (.int 3))) (tCons (tOp (rIx K) (tVar 0) (tC (.int 4))) tNil)))))) (gName 1)) (tSeq (tAsg (tCall (toSp (g_law_network K)) [] E0 (tCons (tOp (rIx K) (tVar 0) (tC (.int 0))) (tCons (tOp (rIx K) (tVar 0) (tC (.int 4))) tNil))) (gName 2)) (tSeq (tAsg (tCall (toSp (g_law_demand K)) [] E0 (tCons (tOp (rIx K) (tVar 0) (tC (.int 1))) (tCons (tOp (rIx K) (tVar 0) (tC (.int 2))) (tCons (tOp (rIx K) (tVar 0) (tC (.int 3))) tNil)))) (gName 3)) (tSeq (tIfS (tNot (tTruA K (tCall (toSp (g_law_same K 3)) [] E0 (tCons (tCall (toSp (g_write_network K)) [] E0 (tCons (tVar 2) (tCons (tVar 3) tNil))) (tCons (tVar 1) tNil))))) (tRet (tC (.bl false))) tNext) (tSeq (tAsg (tCall (toSp (g_read_network K)) [] E0 (tCons (tVar 1) tNil)) (gName 4)) (tSeq (tIfS (tOr (tNot (tTruA K (tCB (rIsi K) (tCons (tVar 4) (tCons (tC (.ty "tuple")) tNil))))) (tTest (tOp (rNeA K) (tCB (rLenA K) (tCons (tVar 4) tNil)) (tC (.int 2))))) (tRet (tC (.bl false))) tNext) (tSeq (tIfS (tOr (tNot (tTruA K (tCall (toSp (g_law_network_is K)) [] E0 (tCons (tOp (rIx K) (tVar 4) (tC (.int 0))) (tCons (tOp (rIx K) (tVar 0) (tC (.int 0))) (tCons (tOp (rIx K) (tVar 0) (tC (.int 4))) tNil)))))) (tNot (tTruA K (tCall (toSp (g_law_demand_is K)) [] E0 (tCons (tOp (rIx K) (tVar 4) (tC (.int 1))) (tCons (tOp (rIx K) (tVar 0) (tC (.int 1))) (tCons (tOp (rIx K) (tVar 0) (tC (.int 2))) (tCons (tOp (rIx K) (tVar 0) (tC (.int 3))) tNil)))))))) (tRet (tC (.bl false))) tNext) (tSeq (tIfS (tOr (tTest (tOp (rNeA K) (tCB (rIsi K) (tCons (tFld K (tOp (rIx K) (tVar 4) (tC (.int 1))) "mode") (tCons (tC (.ref (He.ga K "Gather"))) tNil))) (tOp (rEqA K) (tOp (rIx K) (tVar 0) (tC (.int 3))) (tC (.str "gather"))))) (tTest (tOp (rNeA K) (tCB (rIsi K) (tCons (tFld K (tOp (rIx K) (tVar 4) (tC (.int 1))) "mode") (tCons (tC (.ref (He.ga K "Spread"))) tNil))) (tOp (rEqA K) (tOp (rIx K) (tVar 0) (tC (.int 3))) (tC (.str "spread")))))) (tRet (tC (.bl false))) tNext) (tSeq (tIfS (tOr (tNot (tTruA K (tCall (toSp (g_law_true K)) [] E0 (tCons (tOp (rEqG (DOwn (He.ga K "Network") (g_Network_eq K))) (tOp (rIx K) (tVar 4) (tC (.int 0))) (tVar 2)) tNil)))) (tNot (tTruA K (tCall (toSp (g_law_true K)) [] E0 (tCons (tOp (rEqG (DOwn (He.ga K "Demand") (g_Demand_eq K))) (tOp (rIx K) (tVar 4) (tC (.int 1))) (tVar 3)) tNil))))) (tRet (tC (.bl false))) tNext) (tRet (tCall (toSp (g_law_same K 3)) [] E0 (tCons (tCall (toSp (g_write_network K)) [] E0 (tCons (tOp (rIx K) (tVar 4) (tC (.int 0))) (tCons (tOp (rIx K) (tVar 4) (tC (.int 1))) tNil))) (tCons (tVar 1) tNil)))))))))))))
def t_law_refused (K : PySem.W.Frag) (E : XK) : TS :=
  (tSeq (tTryAs K (.ref (He.ga K "PlaceOutOfRange")) 3 2 (fun a cls d => (tRet (tTup (tCons (tC (.str "refused")) (tCons (tXf a cls d (He.ga K "PlaceOutOfRange") "place" (tVar 2)) tNil))))) E (fun E => (tDrop (tCall (toSp (g_write_network K)) [] E (tCons (tVar 0) (tCons (tVar 1) tNil)))))) (tRet (tTup (tCons (tC (.str "none")) (tCons (tC (.int 0)) tNil)))))
def t_law (K : PySem.W.Frag) (E : XK) : TS :=
  (tSeq (tAsg (tCall (toSp (g_law_source K)) [] E0 (tCons (tVar 0) tNil)) (gName 1)) (tSeq (tAsg (tCall (toSp (g_law_case K)) [] E0 (tCons (tVar 1) tNil)) (gName 2)) (tSeq (tAsg (tCall (toSp (g_law_case K)) [] E0 (tCons (tVar 1) tNil)) (gName 3)) (tSeq (tFor (iSeq K (tLst (tCons (tVar 2) (tCons (tVar 3) (tCons (tVar 2) tNil))))) (gName 4) (tSeq (tIfS (tNot (tTruA K (tCall (toSp (g_law_back K)) [] E0 (tCons (tVar 4) tNil)))) (tRet (tC (.bl false))) tNext) (tIfS (tTest (tOp rLtI (tOp (rIx K) (tVar 4) (tC (.int 0))) (tC (.int 12)))) (tSeq (tAsg (tOp (rAddA K) (tOp (rIx K) (tVar 4) (tC (.int 0))) (tCall (toSp (g_law_draw K)) [] E0 (tCons (tVar 1) (tCons (tOp rSubI (tC (.int 12)) (tOp (rIx K) (tVar 4) (tC (.int 0)))) tNil)))) (gName 5)) (tSeq (tAsg (tCall (toSp (g_law_refused K)) [] E0 (tCons (tCall (toSp (g_law_network K)) [] E0 (tCons (tOp (rIx K) (tVar 4) (tC (.int 0))) (tCons (tOp (rIx K) (tVar 4) (tC (.int 4))) tNil))) (tCons (tCall (toSp (g_law_demand K)) [] E0 (tCons (tVar 5) (tCons (tOp (rIx K) (tVar 4) (tC (.int 2))) (tCons (tOp (rIx K) (tVar 4) (tC (.int 3))) tNil)))) tNil))) (gName 6)) (tIfS (tNot (tTruA K (tCall (toSp (g_law_same K 3)) [] E0 (tCons (tVar 6) (tCons (tTup (tCons (tC (.str "refused")) (tCons (tVar 5) tNil))) tNil))))) (tRet (tC (.bl false))) tNext))) tNext))) (tRet (tC (.bl true)))))))
abbrev Ok_all_different (P : Program) (w : World) (K : PySem.W.Frag) (mg : Str → Option Value) (base : Heap) : Prop := FnOk P w K mg base (L2.CX P w) 1 (at_all_different K) (fdOf K (at_all_different K)) ["places"] (toSp (g_all_different K))
abbrev Ok_Lot_init (P : Program) (w : World) (K : PySem.W.Frag) (mg : Str → Option Value) (base : Heap) : Prop := FnOk P w K mg base (L2.CX P w) 2 (at_Lot_init K) (fdOf K (at_Lot_init K)) ["self", "members", "candidates", "price"] (toSp (g_Lot_init K))
abbrev Ok_check_place (P : Program) (w : World) (K : PySem.W.Frag) (mg : Str → Option Value) (base : Heap) : Prop := FnOk P w K mg base (L2.CX P w) 3 (at_check_place K) (fdOf K (at_check_place K)) ["size", "place"] (toSp (g_check_place K))
abbrev Ok_check_size (P : Program) (w : World) (K : PySem.W.Frag) (mg : Str → Option Value) (base : Heap) : Prop := FnOk P w K mg base (L2.CX P w) 1 (at_check_size K) (fdOf K (at_check_size K)) ["size"] (toSp (g_check_size K))
abbrev Ok_Network_init (P : Program) (w : World) (K : PySem.W.Frag) (mg : Str → Option Value) (base : Heap) : Prop := FnOk P w K mg base (L2.CX P w) 4 (at_Network_init K) (fdOf K (at_Network_init K)) ["self", "size", "lots"] (toSp (g_Network_init K))
abbrev Ok_Demand_init (P : Program) (w : World) (K : PySem.W.Frag) (mg : Str → Option Value) (base : Heap) : Prop := FnOk P w K mg base (L2.CX P w) 4 (at_Demand_init K) (fdOf K (at_Demand_init K)) ["self", "root", "count", "mode"] (toSp (g_Demand_init K))
abbrev Ok_number_in (P : Program) (w : World) (K : PySem.W.Frag) (mg : Str → Option Value) (base : Heap) : Prop := FnOk P w K mg base (L2.CX P w) 1 (at_number_in K) (fdOf K (at_number_in K)) ["word", "least", "most"] (toSp (g_number_in K))
abbrev Ok_Lot_str (P : Program) (w : World) (K : PySem.W.Frag) (mg : Str → Option Value) (base : Heap) : Prop := FnOk P w K mg base (L2.CX P w) 1 (at_Lot_str K) (fdOf K (at_Lot_str K)) ["self"] (toSp (g_Lot_str K))
abbrev Ok_write_network (P : Program) (w : World) (K : PySem.W.Frag) (mg : Str → Option Value) (base : Heap) : Prop := FnOk P w K mg base (L2.CX P w) 4 (at_write_network K) (fdOf K (at_write_network K)) ["network", "demand"] (toSp (g_write_network K))
abbrev Ok_named_number (P : Program) (w : World) (K : PySem.W.Frag) (mg : Str → Option Value) (base : Heap) : Prop := FnOk P w K mg base (L2.CX P w) 2 (at_named_number K) (fdOf K (at_named_number K)) ["lines", "index", "name", "least", "most"] (toSp (g_named_number K))
abbrev Ok_mode_in (P : Program) (w : World) (K : PySem.W.Frag) (mg : Str → Option Value) (base : Heap) : Prop := FnOk P w K mg base (L2.CX P w) 1 (at_mode_in K) (fdOf K (at_mode_in K)) ["lines", "index"] (toSp (g_mode_in K))
abbrev Ok_leading_places (P : Program) (w : World) (K : PySem.W.Frag) (mg : Str → Option Value) (base : Heap) : Prop := FnOk P w K mg base (L2.CX P w) 2 (at_leading_places K) (fdOf K (at_leading_places K)) ["words", "index"] (toSp (g_leading_places K))
abbrev Ok_lot_in (P : Program) (w : World) (K : PySem.W.Frag) (mg : Str → Option Value) (base : Heap) : Prop := FnOk P w K mg base (L2.CX P w) 4 (at_lot_in K) (fdOf K (at_lot_in K)) ["line", "size", "number"] (toSp (g_lot_in K))
abbrev Ok_read_network (P : Program) (w : World) (K : PySem.W.Frag) (mg : Str → Option Value) (base : Heap) : Prop := FnOk P w K mg base (L2.CX P w) 6 (at_read_network K) (fdOf K (at_read_network K)) ["text"] (toSp (g_read_network K))
abbrev Ok_law_source (P : Program) (w : World) (K : PySem.W.Frag) (mg : Str → Option Value) (base : Heap) : Prop := FnOk P w K mg base (L2.CX P w) 1 (at_law_source K) (fdOf K (at_law_source K)) ["script"] (toSp (g_law_source K))
abbrev Ok_law_mixed (P : Program) (w : World) (K : PySem.W.Frag) (mg : Str → Option Value) (base : Heap) : Prop := FnOk P w K mg base (L2.CX P w) 1 (at_law_mixed K) (fdOf K (at_law_mixed K)) ["cell", "turn"] (toSp (g_law_mixed K))
abbrev Ok_law_draw (P : Program) (w : World) (K : PySem.W.Frag) (mg : Str → Option Value) (base : Heap) : Prop := FnOk P w K mg base (L2.CX P w) 2 (at_law_draw K) (fdOf K (at_law_draw K)) ["source", "limit"] (toSp (g_law_draw K))
abbrev Ok_law_number (P : Program) (w : World) (K : PySem.W.Frag) (mg : Str → Option Value) (base : Heap) : Prop := FnOk P w K mg base (L2.CX P w) 1 (at_law_number K) (fdOf K (at_law_number K)) ["actual"] (toSp (g_law_number K))
abbrev Ok_law_same (P : Program) (w : World) (K : PySem.W.Frag) (mg : Str → Option Value) (base : Heap) (n : Nat) : Prop := FnOk P w K mg base (L2.CX P w) (n + 1) (at_law_same K) (fdOf K (at_law_same K)) ["actual", "expected"] (toSp (g_law_same K n))
abbrev Ok_law_pick (P : Program) (w : World) (K : PySem.W.Frag) (mg : Str → Option Value) (base : Heap) : Prop := FnOk P w K mg base (L2.CX P w) 3 (at_law_pick K) (fdOf K (at_law_pick K)) ["source", "row"] (toSp (g_law_pick K))
abbrev Ok_law_shuffled (P : Program) (w : World) (K : PySem.W.Frag) (mg : Str → Option Value) (base : Heap) : Prop := FnOk P w K mg base (L2.CX P w) 3 (at_law_shuffled K) (fdOf K (at_law_shuffled K)) ["source", "row"] (toSp (g_law_shuffled K))
abbrev Ok_law_group (P : Program) (w : World) (K : PySem.W.Frag) (mg : Str → Option Value) (base : Heap) : Prop := FnOk P w K mg base (L2.CX P w) 4 (at_law_group K) (fdOf K (at_law_group K)) ["source", "size"] (toSp (g_law_group K))
abbrev Ok_law_menu (P : Program) (w : World) (K : PySem.W.Frag) (mg : Str → Option Value) (base : Heap) : Prop := FnOk P w K mg base (L2.CX P w) 4 (at_law_menu K) (fdOf K (at_law_menu K)) ["source", "group", "kind"] (toSp (g_law_menu K))
abbrev Ok_law_cost (P : Program) (w : World) (K : PySem.W.Frag) (mg : Str → Option Value) (base : Heap) : Prop := FnOk P w K mg base (L2.CX P w) 3 (at_law_cost K) (fdOf K (at_law_cost K)) ["source"] (toSp (g_law_cost K))
abbrev Ok_law_row (P : Program) (w : World) (K : PySem.W.Frag) (mg : Str → Option Value) (base : Heap) : Prop := FnOk P w K mg base (L2.CX P w) 5 (at_law_row K) (fdOf K (at_law_row K)) ["source", "size", "free"] (toSp (g_law_row K))
abbrev Ok_law_rows (P : Program) (w : World) (K : PySem.W.Frag) (mg : Str → Option Value) (base : Heap) : Prop := FnOk P w K mg base (L2.CX P w) 6 (at_law_rows K) (fdOf K (at_law_rows K)) ["source", "size", "most", "free"] (toSp (g_law_rows K))
abbrev Ok_law_lot_text (P : Program) (w : World) (K : PySem.W.Frag) (mg : Str → Option Value) (base : Heap) : Prop := FnOk P w K mg base (L2.CX P w) 1 (at_law_lot_text K) (fdOf K (at_law_lot_text K)) ["row"] (toSp (g_law_lot_text K))
abbrev Ok_law_lot (P : Program) (w : World) (K : PySem.W.Frag) (mg : Str → Option Value) (base : Heap) : Prop := FnOk P w K mg base (L2.CX P w) 4 (at_law_lot K) (fdOf K (at_law_lot K)) ["row"] (toSp (g_law_lot K))
abbrev Ok_law_network (P : Program) (w : World) (K : PySem.W.Frag) (mg : Str → Option Value) (base : Heap) : Prop := FnOk P w K mg base (L2.CX P w) 6 (at_law_network K) (fdOf K (at_law_network K)) ["size", "rows"] (toSp (g_law_network K))
abbrev Ok_law_mode (P : Program) (w : World) (K : PySem.W.Frag) (mg : Str → Option Value) (base : Heap) : Prop := FnOk P w K mg base (L2.CX P w) 1 (at_law_mode K) (fdOf K (at_law_mode K)) ["name"] (toSp (g_law_mode K))
abbrev Ok_law_demand (P : Program) (w : World) (K : PySem.W.Frag) (mg : Str → Option Value) (base : Heap) : Prop := FnOk P w K mg base (L2.CX P w) 6 (at_law_demand K) (fdOf K (at_law_demand K)) ["top", "many", "name"] (toSp (g_law_demand K))
abbrev Ok_law_lot_is (P : Program) (w : World) (K : PySem.W.Frag) (mg : Str → Option Value) (base : Heap) : Prop := FnOk P w K mg base (L2.CX P w) 5 (at_law_lot_is K) (fdOf K (at_law_lot_is K)) ["lot", "row"] (toSp (g_law_lot_is K))
abbrev Ok_law_network_is (P : Program) (w : World) (K : PySem.W.Frag) (mg : Str → Option Value) (base : Heap) : Prop := FnOk P w K mg base (L2.CX P w) 6 (at_law_network_is K) (fdOf K (at_law_network_is K)) ["network", "size", "rows"] (toSp (g_law_network_is K))
abbrev Ok_law_demand_is (P : Program) (w : World) (K : PySem.W.Frag) (mg : Str → Option Value) (base : Heap) : Prop := FnOk P w K mg base (L2.CX P w) 5 (at_law_demand_is K) (fdOf K (at_law_demand_is K)) ["demand", "top", "many", "name"] (toSp (g_law_demand_is K))
abbrev Ok_law_true (P : Program) (w : World) (K : PySem.W.Frag) (mg : Str → Option Value) (base : Heap) : Prop := FnOk P w K mg base (L2.CX P w) 1 (at_law_true K) (fdOf K (at_law_true K)) ["verdict"] (toSp (g_law_true K))
abbrev Ok_law_repeated (P : Program) (w : World) (K : PySem.W.Frag) (mg : Str → Option Value) (base : Heap) : Prop := FnOk P w K mg base (L2.CX P w) 3 (at_law_repeated K) (fdOf K (at_law_repeated K)) ["source", "rows"] (toSp (g_law_repeated K))
abbrev Ok_law_network_text (P : Program) (w : World) (K : PySem.W.Frag) (mg : Str → Option Value) (base : Heap) : Prop := FnOk P w K mg base (L2.CX P w) 2 (at_law_network_text K) (fdOf K (at_law_network_text K)) ["size", "top", "many", "name", "rows"] (toSp (g_law_network_text K))
abbrev Ok_law_case (P : Program) (w : World) (K : PySem.W.Frag) (mg : Str → Option Value) (base : Heap) : Prop := FnOk P w K mg base (L2.CX P w) 7 (at_law_case K) (fdOf K (at_law_case K)) ["source"] (toSp (g_law_case K))
abbrev Ok_Lot_eq (P : Program) (w : World) (K : PySem.W.Frag) (mg : Str → Option Value) (base : Heap) : Prop := FnOk P w K mg base (L2.CX P w) 1 (at_Lot_eq K) (fdOf K (at_Lot_eq K)) ["self", "other"] (toSp (g_Lot_eq K))
abbrev Ok_Network_eq (P : Program) (w : World) (K : PySem.W.Frag) (mg : Str → Option Value) (base : Heap) : Prop := FnOk P w K mg base (L2.CX P w) 3 (at_Network_eq K) (fdOf K (at_Network_eq K)) ["self", "other"] (toSp (g_Network_eq K))
abbrev Ok_Demand_eq (P : Program) (w : World) (K : PySem.W.Frag) (mg : Str → Option Value) (base : Heap) : Prop := FnOk P w K mg base (L2.CX P w) 1 (at_Demand_eq K) (fdOf K (at_Demand_eq K)) ["self", "other"] (toSp (g_Demand_eq K))
abbrev Ok_law_back (P : Program) (w : World) (K : PySem.W.Frag) (mg : Str → Option Value) (base : Heap) : Prop := FnOk P w K mg base (L2.CX P w) 7 (at_law_back K) (fdOf K (at_law_back K)) ["case"] (toSp (g_law_back K))
abbrev Ok_law_refused (P : Program) (w : World) (K : PySem.W.Frag) (mg : Str → Option Value) (base : Heap) : Prop := FnOk P w K mg base (L2.CX P w) 5 (at_law_refused K) (fdOf K (at_law_refused K)) ["network", "demand"] (toSp (g_law_refused K))
abbrev Ok_law (P : Program) (w : World) (K : PySem.W.Frag) (mg : Str → Option Value) (base : Heap) : Prop := FnOk P w K mg base (L2.CX P w) 8 (at_law K) (fdOf K (at_law K)) ["script"] (toSp (g_law K))
section
variable {P : Program} {w : World} {K : PySem.W.Frag} [Tx K] {mg : Str → Option Value} {base : Heap}
theorem der_all_different (M : MgOk K mg)  {cdv : Value} {A : Around} {outer : List Env} {s : Shared} {H : Hp} {E : XK} (hr : Room 0 (A.deeper (envOfC "all_different" (defScope s_all_different) s.heap.objs.size (at_all_different K) cdv))) :
    PSs (cxOf (L2.CX P w) P w K mg base N_all_different "all_different" (defScope s_all_different) (at_all_different K) cdv A outer s H E) (defBody s_all_different) (t_all_different K E) := by
  have hp : PassesOwn (model P w) (cxOf (L2.CX P w) P w K mg base N_all_different "all_different" (defScope s_all_different) (at_all_different K) cdv A outer s H E).A (cxOf (L2.CX P w) P w K mg base N_all_different "all_different" (defScope s_all_different) (at_all_different K) cdv A outer s H E).env (cxOf (L2.CX P w) P w K mg base N_all_different "all_different" (defScope s_all_different) (at_all_different K) cdv A outer s H E).xe := passes_of rfl
  exact (pss_cons (ps_for hp rfl (pi_range1 rfl (Z_range (K := K) M) (pa_cons (pe_callB call_lenA (by rfl) (Z_len (K := K) M) PySem.boot_len (pa_cons (pv 0) pa_nil)) pa_nil)) (pg_name (i := 1) sc_all_different.nd rfl (Or.inl rfl)) (pss_one (ps_if (pt_cmpR op_inA (pe_ix ix_seq (pv 0) (pv 1) (fun _ _ => rfl)) (pe_slice sl_any (pv 0) po_none (po_some (pv 1))) (by rfl)) (pss_one (ps_ret pe_bl)) pss_nil))) (pss_one (ps_ret pe_bl)))
theorem der_Lot_init (M : MgOk K mg) (G_all_different : Ok_all_different P w K mg base) {cdv : Value} {A : Around} {outer : List Env} {s : Shared} {H : Hp} {E : XK} (hr : Room 1 (A.deeper (envOfC "Lot.__init__" (defScope s_Lot_init) s.heap.objs.size (at_Lot_init K) cdv))) :
    PSs (cxOf (L2.CX P w) P w K mg base N_Lot_init "Lot.__init__" (defScope s_Lot_init) (at_Lot_init K) cdv A outer s H E) (defBody s_Lot_init) (t_Lot_init K E) := by
  have hp : PassesOwn (model P w) (cxOf (L2.CX P w) P w K mg base N_Lot_init "Lot.__init__" (defScope s_Lot_init) (at_Lot_init K) cdv A outer s H E).A (cxOf (L2.CX P w) P w K mg base N_Lot_init "Lot.__init__" (defScope s_Lot_init) (at_Lot_init K) cdv A outer s H E).env (cxOf (L2.CX P w) P w K mg base N_Lot_init "Lot.__init__" (defScope s_Lot_init) (at_Lot_init K) cdv A outer s H E).xe := passes_of rfl
  exact (pss_cons (ps_if (PW.pt (pw_or (pt_cmpR op_ltA (pe_callB call_lenA (by rfl) (Z_len (K := K) M) PySem.boot_len (pa_cons (pv 1) pa_nil)) pe_int (nomark _)) (pw_or1 (pt_not (pt_truth (pe_call G_all_different (hr.mono (by decide)) rfl (M_all_different (K := K) M) (F_all_different (K := K)).kp (b_all_different (K := K)) .nil passL (pa_cons (pv 1) pa_nil)) (fun _ => rfl)))))) (pss_one ps_bad) pss_nil) (pss_cons (ps_for hp rfl (pi_seq (pv 1)) (pg_name (i := 4) sc_Lot_init.nd rfl (Or.inl rfl)) (pss_one (ps_if (pt_not (pt_chain op_leA op_ltA pe_int (pv 4) (pe_cint (C_MOST_PLACES (K := K) M)))) (pss_one ps_bad) pss_nil))) (pss_cons (ps_if (pt_cmpR op_isNA (pv 2) pe_non (nomark _)) (pss_one (ps_set (i := 2) sc_Lot_init.nd rfl (Or.inl rfl) (pv 1))) pss_nil) (pss_cons (ps_if (PW.pt (pw_or (pt_cmpR (op_eqA hr.units) (pe_callB call_lenA (by rfl) (Z_len (K := K) M) PySem.boot_len (pa_cons (pv 2) pa_nil)) pe_int (nomark _)) (pw_or1 (pt_not (pt_truth (pe_call G_all_different (hr.mono (by decide)) rfl (M_all_different (K := K) M) (F_all_different (K := K)).kp (b_all_different (K := K)) .nil passL (pa_cons (pv 2) pa_nil)) (fun _ => rfl)))))) (pss_one ps_bad) pss_nil) (pss_cons (ps_for hp rfl (pi_seq (pv 2)) (pg_name (i := 4) sc_Lot_init.nd rfl (Or.inl rfl)) (pss_one (ps_if (pt_cmpR op_niA (pv 4) (pv 1) (by rfl)) (pss_one ps_bad) pss_nil))) (pss_cons (ps_if (pt_not (pt_chain op_leA op_leA pe_int (pv 3) (pe_cint (C_MOST_PRICE (K := K) M)))) (pss_one ps_bad) pss_nil) (pss_cons (ps_fld (pv 0) (pe_callTy call_tupA (by rfl) (Z_tuple (K := K) M) (by decide +kernel) (pa_cons (pe_callB cr_sortedA (by rfl) (Z_sorted (K := K) M) (by decide +kernel) (pa_cons (pv 1) pa_nil)) pa_nil)) rfl) (pss_cons (ps_fld (pv 0) (pe_callTy call_tupA (by rfl) (Z_tuple (K := K) M) (by decide +kernel) (pa_cons (pe_callB cr_sortedA (by rfl) (Z_sorted (K := K) M) (by decide +kernel) (pa_cons (pv 2) pa_nil)) pa_nil)) rfl) (pss_one (ps_fld (pv 0) (pv 3) rfl))))))))))
theorem der_check_place (M : MgOk K mg) (GX_PlaceOutOfRange : FnOk P w K mg base (L2.CX P w) 1 (at_PlaceOutOfRange_init K) (fdOf K (at_PlaceOutOfRange_init K)) ["self", "place"] (spExc K (He.ga K "PlaceOutOfRange") "place")) {cdv : Value} {A : Around} {outer : List Env} {s : Shared} {H : Hp} {E : XK} (hr : Room 2 (A.deeper (envOfC "check_place" (defScope s_check_place) s.heap.objs.size (at_check_place K) cdv))) :
    PSs (cxOf (L2.CX P w) P w K mg base N_check_place "check_place" (defScope s_check_place) (at_check_place K) cdv A outer s H E) (defBody s_check_place) (t_check_place K E) := by
  have tk := takes_of (X := (cxOf (L2.CX P w) P w K mg base N_check_place "check_place" (defScope s_check_place) (at_check_place K) cdv A outer s H E)) rfl rfl rfl rfl
  exact (pss_one (ps_if (pt_not (pt_chain op_leA op_ltA pe_int (pv 1) (pv 0))) (pss_one (ps_raise rfl tk (pmk_oex (X_PlaceOutOfRange (K := K)).exc (X_PlaceOutOfRange (K := K)).init (X_PlaceOutOfRange (K := K)).fn GX_PlaceOutOfRange (hr.mono (by decide)) (bx_PlaceOutOfRange (K := K)) .nil passL rfl (M_PlaceOutOfRange (K := K) M) (pa_cons (pv 1) pa_nil)))) pss_nil))
theorem der_check_size (M : MgOk K mg)  {cdv : Value} {A : Around} {outer : List Env} {s : Shared} {H : Hp} {E : XK} (hr : Room 0 (A.deeper (envOfC "check_size" (defScope s_check_size) s.heap.objs.size (at_check_size K) cdv))) :
    PSs (cxOf (L2.CX P w) P w K mg base N_check_size "check_size" (defScope s_check_size) (at_check_size K) cdv A outer s H E) (defBody s_check_size) (t_check_size K E) := by
  exact (pss_one (ps_if (pt_not (pt_chain op_leA op_leA pe_int (pv 0) (pe_cint (C_MOST_PLACES (K := K) M)))) (pss_one ps_bad) pss_nil))
theorem der_Network_init (M : MgOk K mg) (G_check_size : Ok_check_size P w K mg base) (G_check_place : Ok_check_place P w K mg base) {cdv : Value} {A : Around} {outer : List Env} {s : Shared} {H : Hp} {E : XK} (hr : Room 3 (A.deeper (envOfC "Network.__init__" (defScope s_Network_init) s.heap.objs.size (at_Network_init K) cdv))) :
    PSs (cxOf (L2.CX P w) P w K mg base N_Network_init "Network.__init__" (defScope s_Network_init) (at_Network_init K) cdv A outer s H E) (defBody s_Network_init) (t_Network_init K E) := by
  have hp : PassesOwn (model P w) (cxOf (L2.CX P w) P w K mg base N_Network_init "Network.__init__" (defScope s_Network_init) (at_Network_init K) cdv A outer s H E).A (cxOf (L2.CX P w) P w K mg base N_Network_init "Network.__init__" (defScope s_Network_init) (at_Network_init K) cdv A outer s H E).env (cxOf (L2.CX P w) P w K mg base N_Network_init "Network.__init__" (defScope s_Network_init) (at_Network_init K) cdv A outer s H E).xe := passes_of rfl
  exact (pss_cons (ps_expr (pe_call G_check_size (hr.mono (by decide)) rfl (M_check_size (K := K) M) (F_check_size (K := K)).kp (b_check_size (K := K)) .nil passL (pa_cons (pv 1) pa_nil))) (pss_cons (ps_if (pt_cmpR op_gtA (pe_callB call_lenA (by rfl) (Z_len (K := K) M) PySem.boot_len (pa_cons (pv 2) pa_nil)) (pe_cint (C_MOST_LOTS (K := K) M)) (nomark _)) (pss_one ps_bad) pss_nil) (pss_cons (ps_for hp rfl (pi_seq (pv 2)) (pg_name (i := 3) sc_Network_init.nd rfl (Or.inl rfl)) (pss_one (ps_for hp rfl (pi_seq (pe_fld (pv 3) rfl)) (pg_name (i := 4) sc_Network_init.nd rfl (Or.inl rfl)) (pss_one (ps_expr (pe_call G_check_place (hr.mono (by decide)) rfl (M_check_place (K := K) M) (F_check_place (K := K)).kp (b_check_place (K := K)) .nil passL (pa_cons (pv 1) (pa_cons (pv 4) pa_nil)))))))) (pss_cons (ps_fld (pv 0) (pv 1) rfl) (pss_one (ps_fld (pv 0) (pe_callTy call_tupA (by rfl) (Z_tuple (K := K) M) (by decide +kernel) (pa_cons (pv 2) pa_nil)) rfl))))))
theorem der_Demand_init (M : MgOk K mg) (G_check_place : Ok_check_place P w K mg base) {cdv : Value} {A : Around} {outer : List Env} {s : Shared} {H : Hp} {E : XK} (hr : Room 3 (A.deeper (envOfC "Demand.__init__" (defScope s_Demand_init) s.heap.objs.size (at_Demand_init K) cdv))) :
    PSs (cxOf (L2.CX P w) P w K mg base N_Demand_init "Demand.__init__" (defScope s_Demand_init) (at_Demand_init K) cdv A outer s H E) (defBody s_Demand_init) (t_Demand_init K E) := by
  exact (pss_cons (ps_expr (pe_call G_check_place (hr.mono (by decide)) rfl (M_check_place (K := K) M) (F_check_place (K := K)).kp (b_check_place (K := K)) .nil passL (pa_cons (pe_cint (C_MOST_PLACES (K := K) M)) (pa_cons (pv 1) pa_nil)))) (pss_cons (ps_if (pt_not (pt_chain op_leA op_leA pe_int (pv 2) (pe_cint (C_MOST_COUNT (K := K) M)))) (pss_one ps_bad) pss_nil) (pss_cons (ps_fld (pv 0) (pv 1) rfl) (pss_cons (ps_fld (pv 0) (pv 2) rfl) (pss_cons (ps_fld (pv 0) (pv 3) rfl) (pss_one (ps_fld (pv 0) (pe_con (pv 3) rfl) rfl)))))))
theorem der_number_in (M : MgOk K mg)  {cdv : Value} {A : Around} {outer : List Env} {s : Shared} {H : Hp} {E : XK} (hr : Room 0 (A.deeper (envOfC "number_in" (defScope s_number_in) s.heap.objs.size (at_number_in K) cdv))) :
    PSs (cxOf (L2.CX P w) P w K mg base N_number_in "number_in" (defScope s_number_in) (at_number_in K) cdv A outer s H E) (defBody s_number_in) (t_number_in K E) := by
  have hp : PassesOwn (model P w) (cxOf (L2.CX P w) P w K mg base N_number_in "number_in" (defScope s_number_in) (at_number_in K) cdv A outer s H E).A (cxOf (L2.CX P w) P w K mg base N_number_in "number_in" (defScope s_number_in) (at_number_in K) cdv A outer s H E).env (cxOf (L2.CX P w) P w K mg base N_number_in "number_in" (defScope s_number_in) (at_number_in K) cdv A outer s H E).xe := passes_of rfl
  exact (pss_cons (ps_if (PW.pt (pw_or (pt_cmpR (op_eqA hr.units) (pv 0) pe_str (nomark _)) (pw_or1 (pt_cmpR op_gtA (pe_callB call_lenA (by rfl) (Z_len (K := K) M) PySem.boot_len (pa_cons (pv 0) pa_nil)) (pe_cint (C_MOST_DIGITS (K := K) M)) (nomark _))))) (pss_one (ps_ret pe_non)) pss_nil) (pss_cons (ps_for hp rfl (pi_str (pv 0)) (pg_name (i := 3) sc_number_in.nd rfl (Or.inl rfl)) (pss_one (ps_if (pt_cmpR op_niA (pv 3) (pe_cstr (C_DIGITS (K := K) M)) (by rfl)) (pss_one (ps_ret pe_non)) pss_nil))) (pss_cons (ps_if (PW.pt (pw_and (pt_cmpR (op_eqA hr.units) (pe_ix ix_seq (pv 0) pe_int (fun _ _ => rfl)) pe_str (nomark _)) (pw_and1 (pt_cmpR op_gtA (pe_callB call_lenA (by rfl) (Z_len (K := K) M) PySem.boot_len (pa_cons (pv 0) pa_nil)) pe_int (nomark _))))) (pss_one (ps_ret pe_non)) pss_nil) (pss_cons (ps_set (i := 4) sc_number_in.nd rfl (Or.inl rfl) (pe_callTy call_intA (by rfl) (Z_int (K := K) M) (by decide +kernel) (pa_cons (pv 0) pa_nil))) (pss_cons (ps_if (PW.pt (pw_or (pt_cmpR op_ltA (pv 4) (pv 1) (nomark _)) (pw_or1 (pt_cmpR op_gtA (pv 4) (pv 2) (nomark _))))) (pss_one (ps_ret pe_non)) pss_nil) (pss_one (ps_ret (pv 4))))))))
theorem der_Lot_str (M : MgOk K mg)  {cdv : Value} {A : Around} {outer : List Env} {s : Shared} {H : Hp} {E : XK} (hr : Room 0 (A.deeper (envOfC "Lot.__str__" (defScope s_Lot_str) s.heap.objs.size (at_Lot_str K) cdv))) :
    PSs (cxOf (L2.CX P w) P w K mg base N_Lot_str "Lot.__str__" (defScope s_Lot_str) (at_Lot_str K) cdv A outer s H E) (defBody s_Lot_str) (t_Lot_str K E) := by
  exact (pss_cons (ps_set (i := 1) sc_Lot_str.nd rfl (Or.inl rfl) (pe_lst (pa_cons (pe_m1 PySem.F.slot_str_join PySem.F.type_str_join mt_joinA pe_str (pe_lc (own := [("place", 2)]) (g := (gName 2)) (tt := tYes) (by rfl) sc_Lot_str.nd (pi_seq (pe_fld (pv 0) rfl)) (blkOk_by (own := [("place", 2)]) (N := N_Lot_str) (sc := defScope s_Lot_str) (by decide +kernel)) (fun _ _ _ _ _ => (pg_name (i := 2) sc_Lot_str.nd rfl (Or.inl rfl))) (fun _ _ _ _ _ => pts_nil) (fun _ _ _ _ _ => (pe_callTy call_strI (by rfl) (Z_str (K := K) M) (by decide +kernel) (pa_cons (pv 2) pa_nil))))) pa_nil))) (pss_cons (ps_if (pt_cmpR (op_neA hr.units) (pe_fld (pv 0) rfl) (pe_fld (pv 0) rfl) (nomark _)) (pss_one (ps_expr (pe_bm PySem.F.plainAttrs_list PySem.F.slot_list_append PySem.F.type_list_append mt_append (pv 1) (pa_cons (pe_op op_addA pe_str (pe_m1 PySem.F.slot_str_join PySem.F.type_str_join mt_joinA pe_str (pe_lc (own := [("place", 2)]) (g := (gName 2)) (tt := tYes) (by rfl) sc_Lot_str.nd (pi_seq (pe_fld (pv 0) rfl)) (blkOk_by (own := [("place", 2)]) (N := N_Lot_str) (sc := defScope s_Lot_str) (by decide +kernel)) (fun _ _ _ _ _ => (pg_name (i := 2) sc_Lot_str.nd rfl (Or.inl rfl))) (fun _ _ _ _ _ => pts_nil) (fun _ _ _ _ _ => (pe_callTy call_strI (by rfl) (Z_str (K := K) M) (by decide +kernel) (pa_cons (pv 2) pa_nil)))))) pa_nil)))) pss_nil) (pss_cons (ps_if (pt_cmpR (op_neA hr.units) (pe_fld (pv 0) rfl) pe_int (nomark _)) (pss_one (ps_expr (pe_bm PySem.F.plainAttrs_list PySem.F.slot_list_append PySem.F.type_list_append mt_append (pv 1) (pa_cons (pe_op op_addA pe_str (pe_callTy call_strI (by rfl) (Z_str (K := K) M) (by decide +kernel) (pa_cons (pe_fld (pv 0) rfl) pa_nil))) pa_nil)))) pss_nil) (pss_one (ps_ret (pe_m1 PySem.F.slot_str_join PySem.F.type_str_join mt_joinA pe_str (pv 1)))))))
theorem der_write_network (M : MgOk K mg) (G_check_place : Ok_check_place P w K mg base) (G_Lot_str : Ok_Lot_str P w K mg base) {cdv : Value} {A : Around} {outer : List Env} {s : Shared} {H : Hp} {E : XK} (hr : Room 3 (A.deeper (envOfC "write_network" (defScope s_write_network) s.heap.objs.size (at_write_network K) cdv))) :
    PSs (cxOf (L2.CX P w) P w K mg base N_write_network "write_network" (defScope s_write_network) (at_write_network K) cdv A outer s H E) (defBody s_write_network) (t_write_network K E) := by
  have tk := takes_of (X := (cxOf (L2.CX P w) P w K mg base N_write_network "write_network" (defScope s_write_network) (at_write_network K) cdv A outer s H E)) rfl rfl rfl rfl
  have hp : PassesOwn (model P w) (cxOf (L2.CX P w) P w K mg base N_write_network "write_network" (defScope s_write_network) (at_write_network K) cdv A outer s H E).A (cxOf (L2.CX P w) P w K mg base N_write_network "write_network" (defScope s_write_network) (at_write_network K) cdv A outer s H E).env (cxOf (L2.CX P w) P w K mg base N_write_network "write_network" (defScope s_write_network) (at_write_network K) cdv A outer s H E).xe := passes_of rfl
  exact (pss_cons (ps_expr (pe_call G_check_place (hr.mono (by decide)) rfl (M_check_place (K := K) M) (F_check_place (K := K)).kp (b_check_place (K := K)) .nil (passes_call tk fun _ _ _ _ h => h) (pa_cons (pe_fld (pv 0) rfl) (pa_cons (pe_fld (pv 1) rfl) pa_nil)))) (pss_cons (ps_set (i := 2) sc_write_network.nd rfl (Or.inl rfl) (pe_lst (pa_cons (pe_joined (PJ.cons pe_str (PJ.cons (pe_fmt (pe_fld (pv 0) rfl)) PJ.nil))) (pa_cons (pe_joined (PJ.cons pe_str (PJ.cons (pe_fmt (pe_fld (pv 1) rfl)) PJ.nil))) (pa_cons (pe_joined (PJ.cons pe_str (PJ.cons (pe_fmt (pe_fld (pv 1) rfl)) PJ.nil))) pa_nil))))) (pss_cons (ps_expr (pe_bm PySem.F.plainAttrs_list PySem.F.slot_list_append PySem.F.type_list_append mt_append (pv 2) (pa_cons (pe_op op_addA pe_str (pe_con (pe_fld (pv 1) rfl) rfl)) pa_nil))) (pss_cons (ps_for hp rfl (pi_seq (pe_fld (pv 0) rfl)) (pg_name (i := 3) sc_write_network.nd rfl (Or.inl rfl)) (pss_one (ps_expr (pe_bm PySem.F.plainAttrs_list PySem.F.slot_list_append PySem.F.type_list_append mt_append (pv 2) (pa_cons (pe_op op_addA pe_str (pe_callTy (call_strO (mt_Lot_str (K := K)).at_ (mt_Lot_str (K := K)).fn G_Lot_str (hr.mono (by decide)) (b_Lot_str (K := K)) passL) (by rfl) (Z_str (K := K) M) (by decide +kernel) (pa_cons (pv 3) pa_nil))) pa_nil))))) (pss_one (ps_ret (pe_m1 PySem.F.slot_str_join PySem.F.type_str_join mt_joinA pe_str (pv 2))))))))
theorem der_named_number (M : MgOk K mg) (G_number_in : Ok_number_in P w K mg base) {cdv : Value} {A : Around} {outer : List Env} {s : Shared} {H : Hp} {E : XK} (hr : Room 1 (A.deeper (envOfC "named_number" (defScope s_named_number) s.heap.objs.size (at_named_number K) cdv))) :
    PSs (cxOf (L2.CX P w) P w K mg base N_named_number "named_number" (defScope s_named_number) (at_named_number K) cdv A outer s H E) (defBody s_named_number) (t_named_number K E) := by
  exact (pss_cons (ps_if (pt_cmpR op_geA (pv 1) (pe_callB call_lenA (by rfl) (Z_len (K := K) M) PySem.boot_len (pa_cons (pv 0) pa_nil)) (nomark _)) (pss_one ps_bad) pss_nil) (pss_cons (ps_set (i := 5) sc_named_number.nd rfl (Or.inl rfl) (pe_m1 PySem.F.slot_str_split PySem.F.type_str_split mt_splitA (pe_ix ix_seq (pv 0) (pv 1) (fun _ _ => rfl)) pe_str)) (pss_cons (ps_if (PW.pt (pw_or (pt_cmpR (op_neA hr.units) (pe_callB call_lenA (by rfl) (Z_len (K := K) M) PySem.boot_len (pa_cons (pv 5) pa_nil)) pe_int (nomark _)) (pw_or1 (pt_cmpR (op_neA hr.units) (pe_ix ix_seq (pv 5) pe_int (fun _ _ => rfl)) (pv 2) (nomark _))))) (pss_one ps_bad) pss_nil) (pss_cons (ps_set (i := 6) sc_named_number.nd rfl (Or.inl rfl) (pe_call G_number_in (hr.mono (by decide)) rfl (M_number_in (K := K) M) (F_number_in (K := K)).kp (b_number_in (K := K)) .nil passL (pa_cons (pe_ix ix_seq (pv 5) pe_int (fun _ _ => rfl)) (pa_cons (pv 3) (pa_cons (pv 4) pa_nil))))) (pss_cons (ps_if (pt_cmpR op_isNA (pv 6) pe_non (nomark _)) (pss_one ps_bad) pss_nil) (pss_one (ps_ret (pv 6))))))))
theorem der_mode_in (M : MgOk K mg)  {cdv : Value} {A : Around} {outer : List Env} {s : Shared} {H : Hp} {E : XK} (hr : Room 0 (A.deeper (envOfC "mode_in" (defScope s_mode_in) s.heap.objs.size (at_mode_in K) cdv))) :
    PSs (cxOf (L2.CX P w) P w K mg base N_mode_in "mode_in" (defScope s_mode_in) (at_mode_in K) cdv A outer s H E) (defBody s_mode_in) (t_mode_in K E) := by
  exact (pss_cons (ps_if (PW.pt (pw_and (pt_cmpR op_ltA (pv 1) (pe_callB call_lenA (by rfl) (Z_len (K := K) M) PySem.boot_len (pa_cons (pv 0) pa_nil)) (nomark _)) (pw_and1 (pt_cmpR (op_eqA hr.units) (pe_ix ix_seq (pv 0) (pv 1) (fun _ _ => rfl)) (pe_op op_addA pe_str (ClX.pe_cval (pe_glob rfl (M_Gather (K := K) M) rfl))) (nomark _))))) (pss_one (ps_ret (pe_mk0 (mk0_Gather (K := K)) (M_Gather (K := K) M)))) pss_nil) (pss_cons (ps_if (PW.pt (pw_and (pt_cmpR op_ltA (pv 1) (pe_callB call_lenA (by rfl) (Z_len (K := K) M) PySem.boot_len (pa_cons (pv 0) pa_nil)) (nomark _)) (pw_and1 (pt_cmpR (op_eqA hr.units) (pe_ix ix_seq (pv 0) (pv 1) (fun _ _ => rfl)) (pe_op op_addA pe_str (ClX.pe_cval (pe_glob rfl (M_Spread (K := K) M) rfl))) (nomark _))))) (pss_one (ps_ret (pe_mk0 (mk0_Spread (K := K)) (M_Spread (K := K) M)))) pss_nil) (pss_one ps_bad)))
theorem der_leading_places (M : MgOk K mg) (G_number_in : Ok_number_in P w K mg base) {cdv : Value} {A : Around} {outer : List Env} {s : Shared} {H : Hp} {E : XK} (hr : Room 1 (A.deeper (envOfC "leading_places" (defScope s_leading_places) s.heap.objs.size (at_leading_places K) cdv))) :
    PSs (cxOf (L2.CX P w) P w K mg base N_leading_places "leading_places" (defScope s_leading_places) (at_leading_places K) cdv A outer s H E) (defBody s_leading_places) (t_leading_places K E) := by
  have hp : PassesOwn (model P w) (cxOf (L2.CX P w) P w K mg base N_leading_places "leading_places" (defScope s_leading_places) (at_leading_places K) cdv A outer s H E).A (cxOf (L2.CX P w) P w K mg base N_leading_places "leading_places" (defScope s_leading_places) (at_leading_places K) cdv A outer s H E).env (cxOf (L2.CX P w) P w K mg base N_leading_places "leading_places" (defScope s_leading_places) (at_leading_places K) cdv A outer s H E).xe := passes_of rfl
  exact (pss_cons (ps_set (i := 2) sc_leading_places.nd rfl (Or.inl rfl) (pe_lst pa_nil)) (pss_cons (ps_while hp (PW.pt (pw_and (pt_cmpR op_ltA (pv 1) (pe_callB call_lenA (by rfl) (Z_len (K := K) M) PySem.boot_len (pa_cons (pv 0) pa_nil)) (nomark _)) (pw_and1 (pt_cmpR op_notNA (pe_call G_number_in (hr.mono (by decide)) rfl (M_number_in (K := K) M) (F_number_in (K := K)).kp (b_number_in (K := K)) .nil passL (pa_cons (pe_ix ix_seq (pv 0) (pv 1) (fun _ _ => rfl)) (pa_cons pe_int (pa_cons (pe_op op_subA (pe_cint (C_MOST_PLACES (K := K) M)) pe_int) pa_nil)))) pe_non (nomark _))))) (pss_cons (ps_expr (pe_bm PySem.F.plainAttrs_list PySem.F.slot_list_append PySem.F.type_list_append mt_append (pv 2) (pa_cons (pe_callTy call_intA (by rfl) (Z_int (K := K) M) (by decide +kernel) (pa_cons (pe_ix ix_seq (pv 0) (pv 1) (fun _ _ => rfl)) pa_nil)) pa_nil))) (pss_one (ps_aug (i := 1) sc_leading_places.nd rfl (Or.inl rfl) pe_int ip_add)))) (pss_one (ps_ret (pe_tup (pa_cons (pv 2) (pa_cons (pv 1) pa_nil)))))))
theorem der_lot_in (M : MgOk K mg) (G_leading_places : Ok_leading_places P w K mg base) (G_number_in : Ok_number_in P w K mg base) (G_Lot_init : Ok_Lot_init P w K mg base) (G_Lot_str : Ok_Lot_str P w K mg base) {cdv : Value} {A : Around} {outer : List Env} {s : Shared} {H : Hp} {E : XK} (hr : Room 3 (A.deeper (envOfC "lot_in" (defScope s_lot_in) s.heap.objs.size (at_lot_in K) cdv))) :
    PSs (cxOf (L2.CX P w) P w K mg base N_lot_in "lot_in" (defScope s_lot_in) (at_lot_in K) cdv A outer s H E) (defBody s_lot_in) (t_lot_in K E) := by
  exact (pss_cons (ps_set (i := 3) sc_lot_in.nd rfl (Or.inl rfl) (pe_m1 PySem.F.slot_str_split PySem.F.type_str_split mt_splitA (pv 0) pe_str)) (pss_cons (ps_asg (pe_call G_leading_places (hr.mono (by decide)) rfl (M_leading_places (K := K) M) (F_leading_places (K := K)).kp (b_leading_places (K := K)) .nil passL (pa_cons (pv 3) (pa_cons pe_int pa_nil))) (pg_tup rfl (pgs_cons (pg_name (i := 4) sc_lot_in.nd rfl (Or.inl rfl)) (pgs_cons (pg_name (i := 5) sc_lot_in.nd rfl (Or.inl rfl)) pgs_nil)))) (pss_cons (ps_set (i := 6) sc_lot_in.nd rfl (Or.inl rfl) pe_non) (pss_cons (ps_if (PW.pt (pw_and (pt_cmpR op_ltA (pv 5) (pe_callB call_lenA (by rfl) (Z_len (K := K) M) PySem.boot_len (pa_cons (pv 3) pa_nil)) (nomark _)) (pw_and1 (pt_cmpR (op_eqA hr.units) (pe_ix ix_seq (pv 3) (pv 5) (fun _ _ => rfl)) pe_str (nomark _))))) (pss_one (ps_asg (pe_call G_leading_places (hr.mono (by decide)) rfl (M_leading_places (K := K) M) (F_leading_places (K := K)).kp (b_leading_places (K := K)) .nil passL (pa_cons (pv 3) (pa_cons (pe_op op_addA (pv 5) pe_int) pa_nil))) (pg_tup rfl (pgs_cons (pg_name (i := 6) sc_lot_in.nd rfl (Or.inl rfl)) (pgs_cons (pg_name (i := 5) sc_lot_in.nd rfl (Or.inl rfl)) pgs_nil))))) pss_nil) (pss_cons (ps_set (i := 7) sc_lot_in.nd rfl (Or.inl rfl) pe_non) (pss_cons (ps_if (pt_cmpR op_ltA (pv 5) (pe_callB call_lenA (by rfl) (Z_len (K := K) M) PySem.boot_len (pa_cons (pv 3) pa_nil)) (nomark _)) (pss_one (ps_set (i := 7) sc_lot_in.nd rfl (Or.inl rfl) (pe_call G_number_in (hr.mono (by decide)) rfl (M_number_in (K := K) M) (F_number_in (K := K)).kp (b_number_in (K := K)) .nil passL (pa_cons (pe_ix ix_seq (pv 3) (pe_un un_negA pe_int) (fun _ _ => rfl)) (pa_cons pe_int (pa_cons (pe_cint (C_MOST_PRICE (K := K) M)) pa_nil)))))) pss_nil) (pss_cons (ps_try_thru0 (pss_one (ps_set (i := 8) sc_lot_in.nd rfl (Or.inl rfl) (pe_make (mk_Lot (K := K)) G_Lot_init (hr.mono (by decide)) (by rfl) (M_Lot (K := K) M) (b_Lot_init (K := K)) .nil passL (pa_cons (pv 4) (pa_cons (pv 6) (pa_cons (pe_ifExp (pt_cmpR op_isNA (pv 7) pe_non (nomark _)) pe_int (pv 7)) pa_nil))))))) (pss_cons (ps_if (PW.pt (pw_or (pt_cmpR (op_neA hr.units) (pe_op op_addA pe_str (pe_callTy (call_strO (mt_Lot_str (K := K)).at_ (mt_Lot_str (K := K)).fn G_Lot_str (hr.mono (by decide)) (b_Lot_str (K := K)) passL) (by rfl) (Z_str (K := K) M) (by decide +kernel) (pa_cons (pv 8) pa_nil))) (pv 0) (nomark _)) (pw_or1 (pt_cmpR op_geA (pe_ix ix_seq (pe_fld (pv 8) rfl) (pe_un un_negA pe_int) (fun _ _ => rfl)) (pv 1) (nomark _))))) (pss_one ps_bad) pss_nil) (pss_one (ps_ret (pv 8)))))))))))
theorem der_read_network (M : MgOk K mg) (G_named_number : Ok_named_number P w K mg base) (G_mode_in : Ok_mode_in P w K mg base) (G_lot_in : Ok_lot_in P w K mg base) (G_Network_init : Ok_Network_init P w K mg base) (G_Demand_init : Ok_Demand_init P w K mg base) {cdv : Value} {A : Around} {outer : List Env} {s : Shared} {H : Hp} {E : XK} (hr : Room 5 (A.deeper (envOfC "read_network" (defScope s_read_network) s.heap.objs.size (at_read_network K) cdv))) :
    PSs (cxOf (L2.CX P w) P w K mg base N_read_network "read_network" (defScope s_read_network) (at_read_network K) cdv A outer s H E) (defBody s_read_network) (t_read_network K E) := by
  have hp : PassesOwn (model P w) (cxOf (L2.CX P w) P w K mg base N_read_network "read_network" (defScope s_read_network) (at_read_network K) cdv A outer s H E).A (cxOf (L2.CX P w) P w K mg base N_read_network "read_network" (defScope s_read_network) (at_read_network K) cdv A outer s H E).env (cxOf (L2.CX P w) P w K mg base N_read_network "read_network" (defScope s_read_network) (at_read_network K) cdv A outer s H E).xe := passes_of rfl
  exact (pss_cons (ps_set (i := 1) sc_read_network.nd rfl (Or.inl rfl) (pe_m1 PySem.F.slot_str_split PySem.F.type_str_split mt_splitA (pv 0) pe_str)) (pss_cons (ps_set (i := 2) sc_read_network.nd rfl (Or.inl rfl) (pe_call G_named_number (hr.mono (by decide)) rfl (M_named_number (K := K) M) (F_named_number (K := K)).kp (b_named_number (K := K)) .nil passL (pa_cons (pv 1) (pa_cons pe_int (pa_cons pe_str (pa_cons pe_int (pa_cons (pe_cint (C_MOST_PLACES (K := K) M)) pa_nil))))))) (pss_cons (ps_set (i := 3) sc_read_network.nd rfl (Or.inl rfl) (pe_call G_named_number (hr.mono (by decide)) rfl (M_named_number (K := K) M) (F_named_number (K := K)).kp (b_named_number (K := K)) .nil passL (pa_cons (pv 1) (pa_cons pe_int (pa_cons pe_str (pa_cons pe_int (pa_cons (pe_op op_subA (pv 2) pe_int) pa_nil))))))) (pss_cons (ps_set (i := 4) sc_read_network.nd rfl (Or.inl rfl) (pe_call G_named_number (hr.mono (by decide)) rfl (M_named_number (K := K) M) (F_named_number (K := K)).kp (b_named_number (K := K)) .nil passL (pa_cons (pv 1) (pa_cons pe_int (pa_cons pe_str (pa_cons pe_int (pa_cons (pe_cint (C_MOST_COUNT (K := K) M)) pa_nil))))))) (pss_cons (ps_set (i := 5) sc_read_network.nd rfl (Or.inl rfl) (pe_call G_mode_in (hr.mono (by decide)) rfl (M_mode_in (K := K) M) (F_mode_in (K := K)).kp (b_mode_in (K := K)) .nil passL (pa_cons (pv 1) (pa_cons pe_int pa_nil)))) (pss_cons (ps_set (i := 6) sc_read_network.nd rfl (Or.inl rfl) (pe_lst pa_nil)) (pss_cons (ps_for hp rfl (pi_range2 rfl (Z_range (K := K) M) (pa_cons pe_int (pa_cons (pe_callB call_lenA (by rfl) (Z_len (K := K) M) PySem.boot_len (pa_cons (pv 1) pa_nil)) pa_nil))) (pg_name (i := 7) sc_read_network.nd rfl (Or.inl rfl)) (pss_cons (ps_if (pt_cmpR (op_eqA hr.units) (pe_callB call_lenA (by rfl) (Z_len (K := K) M) PySem.boot_len (pa_cons (pv 6) pa_nil)) (pe_cint (C_MOST_LOTS (K := K) M)) (nomark _)) (pss_one ps_bad) pss_nil) (pss_one (ps_expr (pe_bm PySem.F.plainAttrs_list PySem.F.slot_list_append PySem.F.type_list_append mt_append (pv 6) (pa_cons (pe_call G_lot_in (hr.mono (by decide)) rfl (M_lot_in (K := K) M) (F_lot_in (K := K)).kp (b_lot_in (K := K)) .nil passL (pa_cons (pe_ix ix_seq (pv 1) (pv 7) (fun _ _ => rfl)) (pa_cons (pv 2) (pa_cons (pe_op op_addA (pv 7) pe_int) pa_nil)))) pa_nil)))))) (pss_one (ps_ret (pe_tup (pa_cons (pe_make (mk_Network (K := K)) G_Network_init (hr.mono (by decide)) (by rfl) (M_Network (K := K) M) (b_Network_init (K := K)) .nil passL (pa_cons (pv 2) (pa_cons (pv 6) pa_nil))) (pa_cons (pe_make (mk_Demand (K := K)) G_Demand_init (hr.mono (by decide)) (by rfl) (M_Demand (K := K) M) (b_Demand_init (K := K)) .nil passL (pa_cons (pv 3) (pa_cons (pv 4) (pa_cons (pv 5) pa_nil)))) pa_nil))))))))))))
theorem der_law_source (M : MgOk K mg)  {cdv : Value} {A : Around} {outer : List Env} {s : Shared} {H : Hp} {E : XK} (hr : Room 0 (A.deeper (envOfC "_law_source" (defScope s_law_source) s.heap.objs.size (at_law_source K) cdv))) :
    PSs (cxOf (L2.CX P w) P w K mg base N_law_source "_law_source" (defScope s_law_source) (at_law_source K) cdv A outer s H E) (defBody s_law_source) (t_law_source K E) := by
  exact (pss_one (ps_ret (pe_lst (pa_cons (pe_callTy call_listA (by rfl) (Z_list (K := K) M) (by decide +kernel) (pa_cons (pv 0) pa_nil)) (pa_cons pe_int (pa_cons pe_int (pa_cons pe_int (pa_cons pe_int (pa_cons pe_bl pa_nil)))))))))
theorem der_law_mixed (M : MgOk K mg)  {cdv : Value} {A : Around} {outer : List Env} {s : Shared} {H : Hp} {E : XK} (hr : Room 0 (A.deeper (envOfC "_law_mixed" (defScope s_law_mixed) s.heap.objs.size (at_law_mixed K) cdv))) :
    PSs (cxOf (L2.CX P w) P w K mg base N_law_mixed "_law_mixed" (defScope s_law_mixed) (at_law_mixed K) cdv A outer s H E) (defBody s_law_mixed) (t_law_mixed K E) := by
  exact (pss_cons (ps_set (i := 2) sc_law_mixed.nd rfl (Or.inl rfl) (pe_op op_modA (pe_callTy call_intA (by rfl) (Z_int (K := K) M) (by decide +kernel) (pa_cons (pe_op op_addA (pe_op op_addA (pe_op op_mulA (pv 0) pe_int) (pe_op op_mulA (pv 1) pe_int)) pe_int) pa_nil)) pe_int)) (pss_cons (ps_set (i := 3) sc_law_mixed.nd rfl (Or.inl rfl) (pe_op op_modA (pe_callTy call_intA (by rfl) (Z_int (K := K) M) (by decide +kernel) (pa_cons (pe_op op_addA (pe_op op_addA (pe_op op_mulA (pv 2) pe_int) (pe_op op_divA (pv 2) pe_int)) (pe_op op_mulA (pv 1) pe_int)) pa_nil)) pe_int)) (pss_one (ps_ret (pe_op op_modA (pe_callTy call_intA (by rfl) (Z_int (K := K) M) (by decide +kernel) (pa_cons (pe_op op_addA (pe_op op_mulA (pv 3) (pv 3)) (pv 2)) pa_nil)) pe_int)))))
theorem der_law_draw (M : MgOk K mg) (G_law_mixed : Ok_law_mixed P w K mg base) {cdv : Value} {A : Around} {outer : List Env} {s : Shared} {H : Hp} {E : XK} (hr : Room 1 (A.deeper (envOfC "_law_draw" (defScope s_law_draw) s.heap.objs.size (at_law_draw K) cdv))) :
    PSs (cxOf (L2.CX P w) P w K mg base N_law_draw "_law_draw" (defScope s_law_draw) (at_law_draw K) cdv A outer s H E) (defBody s_law_draw) (t_law_draw K E) := by
  exact (pss_cons (ps_if (pt_cmpR (op_eqA hr.units) (pe_ix ix_seq (pv 0) pe_int (fun _ _ => rfl)) pe_int (nomark _)) (pss_cons (ps_if (pt_cmpR op_geA (pe_ix ix_seq (pv 0) pe_int (fun _ _ => rfl)) (pe_callB call_lenA (by rfl) (Z_len (K := K) M) PySem.boot_len (pa_cons (pe_ix ix_seq (pv 0) pe_int (fun _ _ => rfl)) pa_nil)) (nomark _)) (pss_one (ps_ret pe_int)) pss_nil) (pss_cons (ps_asg (pe_ix ix_seq (pe_ix ix_seq (pv 0) pe_int (fun _ _ => rfl)) (pe_ix ix_seq (pv 0) pe_int (fun _ _ => rfl)) (fun _ _ => rfl)) (pg_sub (pv 0) pe_int set_list)) (pss_cons (ps_asg (pe_op op_addA (pe_ix ix_seq (pv 0) pe_int (fun _ _ => rfl)) pe_int) (pg_sub (pv 0) pe_int set_list)) (pss_cons (ps_asg (pe_cmpR op_geA (pe_ix ix_seq (pv 0) pe_int (fun _ _ => rfl)) (pe_op op_powA pe_int pe_int) (nomark _)) (pg_sub (pv 0) pe_int set_list)) (pss_cons (ps_asg pe_int (pg_sub (pv 0) pe_int set_list)) (pss_one (ps_if (pt_truth (pe_ix ix_seq (pv 0) pe_int (fun _ _ => rfl)) (fun _ => rfl)) (pss_one (ps_asg pe_int (pg_sub (pv 0) pe_int set_list))) pss_nil))))))) pss_nil) (pss_cons (ps_asg (pe_op op_subA (pe_ix ix_seq (pv 0) pe_int (fun _ _ => rfl)) pe_int) (pg_sub (pv 0) pe_int set_list)) (pss_cons (ps_asg (pe_op op_addA (pe_ix ix_seq (pv 0) pe_int (fun _ _ => rfl)) pe_int) (pg_sub (pv 0) pe_int set_list)) (pss_cons (ps_if (pt_not (pt_truth (pe_ix ix_seq (pv 0) pe_int (fun _ _ => rfl)) (fun _ => rfl))) (pss_one (ps_ret (pe_op op_modA (pe_callTy call_intA (by rfl) (Z_int (K := K) M) (by decide +kernel) (pa_cons (pe_call G_law_mixed (hr.mono (by decide)) rfl (M_law_mixed (K := K) M) (F_law_mixed (K := K)).kp (b_law_mixed (K := K)) .nil passL (pa_cons (pe_ix ix_seq (pv 0) pe_int (fun _ _ => rfl)) (pa_cons (pe_ix ix_seq (pv 0) pe_int (fun _ _ => rfl)) pa_nil))) pa_nil)) (pv 1)))) pss_nil) (pss_cons (ps_set (i := 2) sc_law_draw.nd rfl (Or.inl rfl) (pe_op op_modA (pe_callTy call_intA (by rfl) (Z_int (K := K) M) (by decide +kernel) (pa_cons (pe_ix ix_seq (pv 0) pe_int (fun _ _ => rfl)) pa_nil)) (pv 1))) (pss_cons (ps_asg (pe_op op_divA (pe_ix ix_seq (pv 0) pe_int (fun _ _ => rfl)) (pv 1)) (pg_sub (pv 0) pe_int set_list)) (pss_cons (ps_if (pt_cmpR (op_eqA hr.units) (pe_ix ix_seq (pv 0) pe_int (fun _ _ => rfl)) pe_int (nomark _)) (pss_one (ps_asg pe_int (pg_sub (pv 0) pe_int set_list))) pss_nil) (pss_one (ps_ret (pv 2))))))))))
theorem der_law_number (M : MgOk K mg)  {cdv : Value} {A : Around} {outer : List Env} {s : Shared} {H : Hp} {E : XK} (hr : Room 0 (A.deeper (envOfC "_law_number" (defScope s_law_number) s.heap.objs.size (at_law_number K) cdv))) :
    PSs (cxOf (L2.CX P w) P w K mg base N_law_number "_law_number" (defScope s_law_number) (at_law_number K) cdv A outer s H E) (defBody s_law_number) (t_law_number K E) := by
  exact (pss_one (ps_ret (pe_and (pe_callB call_isiA (by rfl) (Z_isinstance (K := K) M) (by decide +kernel) (pa_cons (pv 0) (pa_cons (pe_bltn (v := .ty "int") (u := .type "int") (by rfl) (Z_int (K := K) M) (by decide +kernel) rfl) pa_nil))) (pe_one (pe_not (pe_callB call_isiA (by rfl) (Z_isinstance (K := K) M) (by decide +kernel) (pa_cons (pv 0) (pa_cons (pe_bltn (v := .ty "bool") (u := .type "bool") (by rfl) (Z_bool (K := K) M) (by decide +kernel) rfl) pa_nil))))))))
theorem der_law_same {n : Nat} (M : MgOk K mg) (G_law_number : Ok_law_number P w K mg base) (G_law_same : Ok_law_same P w K mg base n) {cdv : Value} {A : Around} {outer : List Env} {s : Shared} {H : Hp} {E : XK} (hr : Room (n + 1) (A.deeper (envOfC "_law_same" (defScope s_law_same) s.heap.objs.size (at_law_same K) cdv))) :
    PSs (cxOf (L2.CX P w) P w K mg base N_law_same "_law_same" (defScope s_law_same) (at_law_same K) cdv A outer s H E) (defBody s_law_same) (t_law_same K E n) := by
  have hp : PassesOwn (model P w) (cxOf (L2.CX P w) P w K mg base N_law_same "_law_same" (defScope s_law_same) (at_law_same K) cdv A outer s H E).A (cxOf (L2.CX P w) P w K mg base N_law_same "_law_same" (defScope s_law_same) (at_law_same K) cdv A outer s H E).env (cxOf (L2.CX P w) P w K mg base N_law_same "_law_same" (defScope s_law_same) (at_law_same K) cdv A outer s H E).xe := passes_of rfl
  exact (pss_cons (ps_if (pt_truth (pe_callB call_isiA (by rfl) (Z_isinstance (K := K) M) (by decide +kernel) (pa_cons (pv 1) (pa_cons (pe_bltn (v := .ty "bool") (u := .type "bool") (by rfl) (Z_bool (K := K) M) (by decide +kernel) rfl) pa_nil))) (fun _ => rfl)) (pss_one (ps_ret (pe_and (pe_callB call_isiA (by rfl) (Z_isinstance (K := K) M) (by decide +kernel) (pa_cons (pv 0) (pa_cons (pe_bltn (v := .ty "bool") (u := .type "bool") (by rfl) (Z_bool (K := K) M) (by decide +kernel) rfl) pa_nil))) (pe_one (pe_cmpR (op_eqA hr.units) (pv 0) (pv 1) (nomark _)))))) pss_nil) (pss_cons (ps_if (pt_truth (pe_callB call_isiA (by rfl) (Z_isinstance (K := K) M) (by decide +kernel) (pa_cons (pv 1) (pa_cons (pe_bltn (v := .ty "int") (u := .type "int") (by rfl) (Z_int (K := K) M) (by decide +kernel) rfl) pa_nil))) (fun _ => rfl)) (pss_one (ps_ret (pe_and (pe_call G_law_number (hr.mono (by omega)) rfl (M_law_number (K := K) M) (F_law_number (K := K)).kp (b_law_number (K := K)) .nil passL (pa_cons (pv 0) pa_nil)) (pe_one (pe_cmpR (op_eqA hr.units) (pv 0) (pv 1) (nomark _)))))) pss_nil) (pss_cons (ps_if (pt_truth (pe_callB call_isiA (by rfl) (Z_isinstance (K := K) M) (by decide +kernel) (pa_cons (pv 1) (pa_cons (pe_bltn (v := .ty "str") (u := .type "str") (by rfl) (Z_str (K := K) M) (by decide +kernel) rfl) pa_nil))) (fun _ => rfl)) (pss_one (ps_ret (pe_and (pe_callB call_isiA (by rfl) (Z_isinstance (K := K) M) (by decide +kernel) (pa_cons (pv 0) (pa_cons (pe_bltn (v := .ty "str") (u := .type "str") (by rfl) (Z_str (K := K) M) (by decide +kernel) rfl) pa_nil))) (pe_one (pe_cmpR (op_eqA hr.units) (pv 0) (pv 1) (nomark _)))))) pss_nil) (pss_cons (ps_if (pt_cmpR op_isNA (pv 1) pe_non (nomark _)) (pss_one (ps_ret (pe_cmpR op_isNA (pv 0) pe_non (nomark _)))) pss_nil) (pss_cons (ps_if (PW.pt (pw_and (pt_truth (pe_callB call_isiA (by rfl) (Z_isinstance (K := K) M) (by decide +kernel) (pa_cons (pv 1) (pa_cons (pe_bltn (v := .ty "tuple") (u := .type "tuple") (by rfl) (Z_tuple (K := K) M) (by decide +kernel) rfl) pa_nil))) (fun _ => rfl)) (pw_and1 (pt_not (pt_truth (pe_callB call_isiA (by rfl) (Z_isinstance (K := K) M) (by decide +kernel) (pa_cons (pv 0) (pa_cons (pe_bltn (v := .ty "tuple") (u := .type "tuple") (by rfl) (Z_tuple (K := K) M) (by decide +kernel) rfl) pa_nil))) (fun _ => rfl)))))) (pss_one (ps_ret pe_bl)) pss_nil) (pss_cons (ps_if (PW.pt (pw_and (pt_truth (pe_callB call_isiA (by rfl) (Z_isinstance (K := K) M) (by decide +kernel) (pa_cons (pv 1) (pa_cons (pe_bltn (v := .ty "list") (u := .type "list") (by rfl) (Z_list (K := K) M) (by decide +kernel) rfl) pa_nil))) (fun _ => rfl)) (pw_and1 (pt_not (pt_truth (pe_callB call_isiA (by rfl) (Z_isinstance (K := K) M) (by decide +kernel) (pa_cons (pv 0) (pa_cons (pe_bltn (v := .ty "list") (u := .type "list") (by rfl) (Z_list (K := K) M) (by decide +kernel) rfl) pa_nil))) (fun _ => rfl)))))) (pss_one (ps_ret pe_bl)) pss_nil) (pss_cons (ps_if (pt_cmpR (op_neA hr.units) (pe_callB call_lenA (by rfl) (Z_len (K := K) M) PySem.boot_len (pa_cons (pv 0) pa_nil)) (pe_callB call_lenA (by rfl) (Z_len (K := K) M) PySem.boot_len (pa_cons (pv 1) pa_nil)) (nomark _)) (pss_one (ps_ret pe_bl)) pss_nil) (pss_cons (ps_for hp rfl (pi_range1 rfl (Z_range (K := K) M) (pa_cons (pe_callB call_lenA (by rfl) (Z_len (K := K) M) PySem.boot_len (pa_cons (pv 1) pa_nil)) pa_nil)) (pg_name (i := 2) sc_law_same.nd rfl (Or.inl rfl)) (pss_one (ps_if (pt_not (pt_truth (pe_call G_law_same hr rfl (M_law_same (K := K) M) (F_law_same (K := K)).kp (b_law_same (K := K)) .nil passL (pa_cons (pe_ix ix_seq (pv 0) (pv 2) (fun _ _ => rfl)) (pa_cons (pe_ix ix_seq (pv 1) (pv 2) (fun _ _ => rfl)) pa_nil))) (fun _ => rfl))) (pss_one (ps_ret pe_bl)) pss_nil))) (pss_one (ps_ret pe_bl))))))))))
theorem der_law_pick (M : MgOk K mg) (G_law_draw : Ok_law_draw P w K mg base) {cdv : Value} {A : Around} {outer : List Env} {s : Shared} {H : Hp} {E : XK} (hr : Room 2 (A.deeper (envOfC "_law_pick" (defScope s_law_pick) s.heap.objs.size (at_law_pick K) cdv))) :
    PSs (cxOf (L2.CX P w) P w K mg base N_law_pick "_law_pick" (defScope s_law_pick) (at_law_pick K) cdv A outer s H E) (defBody s_law_pick) (t_law_pick K E) := by
  exact (pss_one (ps_ret (pe_ix ix_seq (pv 1) (pe_call G_law_draw (hr.mono (by decide)) rfl (M_law_draw (K := K) M) (F_law_draw (K := K)).kp (b_law_draw (K := K)) .nil passL (pa_cons (pv 0) (pa_cons (pe_callB call_lenA (by rfl) (Z_len (K := K) M) PySem.boot_len (pa_cons (pv 1) pa_nil)) pa_nil))) (fun _ _ => rfl))))
theorem der_law_shuffled (M : MgOk K mg) (G_law_draw : Ok_law_draw P w K mg base) {cdv : Value} {A : Around} {outer : List Env} {s : Shared} {H : Hp} {E : XK} (hr : Room 2 (A.deeper (envOfC "_law_shuffled" (defScope s_law_shuffled) s.heap.objs.size (at_law_shuffled K) cdv))) :
    PSs (cxOf (L2.CX P w) P w K mg base N_law_shuffled "_law_shuffled" (defScope s_law_shuffled) (at_law_shuffled K) cdv A outer s H E) (defBody s_law_shuffled) (t_law_shuffled K E) := by
  have hp : PassesOwn (model P w) (cxOf (L2.CX P w) P w K mg base N_law_shuffled "_law_shuffled" (defScope s_law_shuffled) (at_law_shuffled K) cdv A outer s H E).A (cxOf (L2.CX P w) P w K mg base N_law_shuffled "_law_shuffled" (defScope s_law_shuffled) (at_law_shuffled K) cdv A outer s H E).env (cxOf (L2.CX P w) P w K mg base N_law_shuffled "_law_shuffled" (defScope s_law_shuffled) (at_law_shuffled K) cdv A outer s H E).xe := passes_of rfl
  exact (pss_cons (ps_set (i := 2) sc_law_shuffled.nd rfl (Or.inl rfl) (pe_callTy call_listA (by rfl) (Z_list (K := K) M) (by decide +kernel) (pa_cons (pv 1) pa_nil))) (pss_cons (ps_set (i := 3) sc_law_shuffled.nd rfl (Or.inl rfl) (pe_lst pa_nil)) (pss_cons (ps_for hp rfl (pi_range1 rfl (Z_range (K := K) M) (pa_cons (pe_callB call_lenA (by rfl) (Z_len (K := K) M) PySem.boot_len (pa_cons (pv 1) pa_nil)) pa_nil)) (pg_name (i := 4) sc_law_shuffled.nd rfl (Or.inl rfl)) (pss_one (ps_expr (pe_bm PySem.F.plainAttrs_list PySem.F.slot_list_append PySem.F.type_list_append mt_append (pv 3) (pa_cons (pe_bm PySem.F.plainAttrs_list PySem.F.slot_list_pop PySem.F.type_list_pop mt_popAt (pv 2) (pa_cons (pe_call G_law_draw (hr.mono (by decide)) rfl (M_law_draw (K := K) M) (F_law_draw (K := K)).kp (b_law_draw (K := K)) .nil passL (pa_cons (pv 0) (pa_cons (pe_callB call_lenA (by rfl) (Z_len (K := K) M) PySem.boot_len (pa_cons (pv 2) pa_nil)) pa_nil))) pa_nil)) pa_nil))))) (pss_one (ps_ret (pv 3))))))
theorem der_law_group (M : MgOk K mg) (G_law_shuffled : Ok_law_shuffled P w K mg base) (G_law_draw : Ok_law_draw P w K mg base) {cdv : Value} {A : Around} {outer : List Env} {s : Shared} {H : Hp} {E : XK} (hr : Room 3 (A.deeper (envOfC "_law_group" (defScope s_law_group) s.heap.objs.size (at_law_group K) cdv))) :
    PSs (cxOf (L2.CX P w) P w K mg base N_law_group "_law_group" (defScope s_law_group) (at_law_group K) cdv A outer s H E) (defBody s_law_group) (t_law_group K E) := by
  exact (pss_cons (ps_set (i := 2) sc_law_group.nd rfl (Or.inl rfl) (pe_call G_law_shuffled (hr.mono (by decide)) rfl (M_law_shuffled (K := K) M) (F_law_shuffled (K := K)).kp (b_law_shuffled (K := K)) .nil passL (pa_cons (pv 0) (pa_cons (pe_listRg rfl rfl (Z_list (K := K) M) (prg_1 rfl (Z_range (K := K) M) (pv 1))) pa_nil)))) (pss_one (ps_ret (pe_slice sl_any (pv 2) po_none (po_some (pe_op op_addA pe_int (pe_call G_law_draw (hr.mono (by decide)) rfl (M_law_draw (K := K) M) (F_law_draw (K := K)).kp (b_law_draw (K := K)) .nil passL (pa_cons (pv 0) (pa_cons (pe_op op_subA (pv 1) pe_int) pa_nil)))))))))
theorem der_law_menu (M : MgOk K mg) (G_law_pick : Ok_law_pick P w K mg base) (G_law_shuffled : Ok_law_shuffled P w K mg base) (G_law_draw : Ok_law_draw P w K mg base) {cdv : Value} {A : Around} {outer : List Env} {s : Shared} {H : Hp} {E : XK} (hr : Room 3 (A.deeper (envOfC "_law_menu" (defScope s_law_menu) s.heap.objs.size (at_law_menu K) cdv))) :
    PSs (cxOf (L2.CX P w) P w K mg base N_law_menu "_law_menu" (defScope s_law_menu) (at_law_menu K) cdv A outer s H E) (defBody s_law_menu) (t_law_menu K E) := by
  exact (pss_cons (ps_if (pt_cmpR (op_eqA hr.units) (pv 2) pe_int (nomark _)) (pss_one (ps_ret (pe_callTy call_listA (by rfl) (Z_list (K := K) M) (by decide +kernel) (pa_cons (pv 1) pa_nil)))) pss_nil) (pss_cons (ps_if (pt_cmpR (op_eqA hr.units) (pv 2) pe_int (nomark _)) (pss_one (ps_ret (pe_lst (pa_cons (pe_call G_law_pick (hr.mono (by decide)) rfl (M_law_pick (K := K) M) (F_law_pick (K := K)).kp (b_law_pick (K := K)) .nil passL (pa_cons (pv 0) (pa_cons (pv 1) pa_nil))) pa_nil)))) pss_nil) (pss_one (ps_ret (pe_slice sl_any (pe_call G_law_shuffled (hr.mono (by decide)) rfl (M_law_shuffled (K := K) M) (F_law_shuffled (K := K)).kp (b_law_shuffled (K := K)) .nil passL (pa_cons (pv 0) (pa_cons (pv 1) pa_nil))) po_none (po_some (pe_op op_addA pe_int (pe_call G_law_draw (hr.mono (by decide)) rfl (M_law_draw (K := K) M) (F_law_draw (K := K)).kp (b_law_draw (K := K)) .nil passL (pa_cons (pv 0) (pa_cons (pe_callB call_lenA (by rfl) (Z_len (K := K) M) PySem.boot_len (pa_cons (pv 1) pa_nil)) pa_nil))))))))))
theorem der_law_cost (M : MgOk K mg) (G_law_draw : Ok_law_draw P w K mg base) {cdv : Value} {A : Around} {outer : List Env} {s : Shared} {H : Hp} {E : XK} (hr : Room 2 (A.deeper (envOfC "_law_cost" (defScope s_law_cost) s.heap.objs.size (at_law_cost K) cdv))) :
    PSs (cxOf (L2.CX P w) P w K mg base N_law_cost "_law_cost" (defScope s_law_cost) (at_law_cost K) cdv A outer s H E) (defBody s_law_cost) (t_law_cost K E) := by
  exact (pss_cons (ps_set (i := 1) sc_law_cost.nd rfl (Or.inl rfl) (pe_call G_law_draw (hr.mono (by decide)) rfl (M_law_draw (K := K) M) (F_law_draw (K := K)).kp (b_law_draw (K := K)) .nil passL (pa_cons (pv 0) (pa_cons pe_int pa_nil)))) (pss_cons (ps_if (pt_cmpR (op_eqA hr.units) (pv 1) pe_int (nomark _)) (pss_one (ps_ret pe_int)) pss_nil) (pss_cons (ps_if (pt_cmpR (op_eqA hr.units) (pv 1) pe_int (nomark _)) (pss_one (ps_ret (pe_op op_subA (pe_op op_powA pe_int pe_int) (pe_call G_law_draw (hr.mono (by decide)) rfl (M_law_draw (K := K) M) (F_law_draw (K := K)).kp (b_law_draw (K := K)) .nil passL (pa_cons (pv 0) (pa_cons pe_int pa_nil)))))) pss_nil) (pss_cons (ps_if (pt_cmpR (op_eqA hr.units) (pv 1) pe_int (nomark _)) (pss_one (ps_ret (pe_op op_addA pe_int (pe_call G_law_draw (hr.mono (by decide)) rfl (M_law_draw (K := K) M) (F_law_draw (K := K)).kp (b_law_draw (K := K)) .nil passL (pa_cons (pv 0) (pa_cons pe_int pa_nil)))))) pss_nil) (pss_one (ps_ret (pe_call G_law_draw (hr.mono (by decide)) rfl (M_law_draw (K := K) M) (F_law_draw (K := K)).kp (b_law_draw (K := K)) .nil passL (pa_cons (pv 0) (pa_cons (pe_op op_addA (pe_op op_powA pe_int pe_int) pe_int) pa_nil)))))))))
theorem der_law_row (M : MgOk K mg) (G_law_group : Ok_law_group P w K mg base) (G_law_draw : Ok_law_draw P w K mg base) (G_law_menu : Ok_law_menu P w K mg base) (G_law_cost : Ok_law_cost P w K mg base) {cdv : Value} {A : Around} {outer : List Env} {s : Shared} {H : Hp} {E : XK} (hr : Room 4 (A.deeper (envOfC "_law_row" (defScope s_law_row) s.heap.objs.size (at_law_row K) cdv))) :
    PSs (cxOf (L2.CX P w) P w K mg base N_law_row "_law_row" (defScope s_law_row) (at_law_row K) cdv A outer s H E) (defBody s_law_row) (t_law_row K E) := by
  exact (pss_cons (ps_set (i := 3) sc_law_row.nd rfl (Or.inl rfl) (pe_call G_law_group (hr.mono (by decide)) rfl (M_law_group (K := K) M) (F_law_group (K := K)).kp (b_law_group (K := K)) .nil passL (pa_cons (pv 0) (pa_cons (pv 1) pa_nil)))) (pss_cons (ps_set (i := 4) sc_law_row.nd rfl (Or.inl rfl) pe_int) (pss_cons (ps_if (pt_not (pt_truth (pv 2) (fun _ => rfl))) (pss_one (ps_set (i := 4) sc_law_row.nd rfl (Or.inl rfl) (pe_call G_law_draw (hr.mono (by decide)) rfl (M_law_draw (K := K) M) (F_law_draw (K := K)).kp (b_law_draw (K := K)) .nil passL (pa_cons (pv 0) (pa_cons pe_int pa_nil))))) pss_nil) (pss_one (ps_ret (pe_tup (pa_cons (pv 3) (pa_cons (pe_call G_law_menu (hr.mono (by decide)) rfl (M_law_menu (K := K) M) (F_law_menu (K := K)).kp (b_law_menu (K := K)) .nil passL (pa_cons (pv 0) (pa_cons (pv 3) (pa_cons (pv 4) pa_nil)))) (pa_cons (pe_call G_law_cost (hr.mono (by decide)) rfl (M_law_cost (K := K) M) (F_law_cost (K := K)).kp (b_law_cost (K := K)) .nil passL (pa_cons (pv 0) pa_nil)) pa_nil)))))))))
theorem der_law_rows (M : MgOk K mg) (G_law_draw : Ok_law_draw P w K mg base) (G_law_row : Ok_law_row P w K mg base) {cdv : Value} {A : Around} {outer : List Env} {s : Shared} {H : Hp} {E : XK} (hr : Room 5 (A.deeper (envOfC "_law_rows" (defScope s_law_rows) s.heap.objs.size (at_law_rows K) cdv))) :
    PSs (cxOf (L2.CX P w) P w K mg base N_law_rows "_law_rows" (defScope s_law_rows) (at_law_rows K) cdv A outer s H E) (defBody s_law_rows) (t_law_rows K E) := by
  exact (pss_cons (ps_if (pt_cmpR op_ltA (pv 1) pe_int (nomark _)) (pss_one (ps_ret (pe_lst pa_nil))) pss_nil) (pss_one (ps_ret (pe_lc (own := [("k", 4)]) (g := (gName 4)) (tt := tYes) (by rfl) sc_law_rows.nd (pi_range1 rfl (Z_range (K := K) M) (pa_cons (pe_call G_law_draw (hr.mono (by decide)) rfl (M_law_draw (K := K) M) (F_law_draw (K := K)).kp (b_law_draw (K := K)) .nil passL (pa_cons (pv 0) (pa_cons (pe_op op_addA (pv 2) pe_int) pa_nil))) pa_nil)) (blkOk_by (own := [("k", 4)]) (N := N_law_rows) (sc := defScope s_law_rows) (by decide +kernel)) (fun _ _ _ _ _ => (pg_name (i := 4) sc_law_rows.nd rfl (Or.inl rfl))) (fun _ _ _ _ _ => pts_nil) (fun _ _ _ _ _ => (pe_call G_law_row (hr.mono (by decide)) rfl (M_law_row (K := K) M) (F_law_row (K := K)).kp (b_law_row (K := K)) .nil passL (pa_cons (pv 0) (pa_cons (pv 1) (pa_cons (pv 3) pa_nil)))))))))
theorem der_law_lot_text (M : MgOk K mg)  {cdv : Value} {A : Around} {outer : List Env} {s : Shared} {H : Hp} {E : XK} (hr : Room 0 (A.deeper (envOfC "_law_lot_text" (defScope s_law_lot_text) s.heap.objs.size (at_law_lot_text K) cdv))) :
    PSs (cxOf (L2.CX P w) P w K mg base N_law_lot_text "_law_lot_text" (defScope s_law_lot_text) (at_law_lot_text K) cdv A outer s H E) (defBody s_law_lot_text) (t_law_lot_text K E) := by
  exact (pss_cons (ps_set (i := 1) sc_law_lot_text.nd rfl (Or.inl rfl) (pe_callB cr_sortedA (by rfl) (Z_sorted (K := K) M) (by decide +kernel) (pa_cons (pe_ix ix_seq (pv 0) pe_int (fun _ _ => rfl)) pa_nil))) (pss_cons (ps_set (i := 2) sc_law_lot_text.nd rfl (Or.inl rfl) (pe_callB cr_sortedA (by rfl) (Z_sorted (K := K) M) (by decide +kernel) (pa_cons (pe_ix ix_seq (pv 0) pe_int (fun _ _ => rfl)) pa_nil))) (pss_cons (ps_set (i := 3) sc_law_lot_text.nd rfl (Or.inl rfl) (pe_m1 PySem.F.slot_str_join PySem.F.type_str_join mt_joinA pe_str (pe_lc (own := [("place", 4)]) (g := (gName 4)) (tt := tYes) (by rfl) sc_law_lot_text.nd (pi_seq (pv 1)) (blkOk_by (own := [("place", 4)]) (N := N_law_lot_text) (sc := defScope s_law_lot_text) (by decide +kernel)) (fun _ _ _ _ _ => (pg_name (i := 4) sc_law_lot_text.nd rfl (Or.inl rfl))) (fun _ _ _ _ _ => pts_nil) (fun _ _ _ _ _ => (pe_callTy call_strI (by rfl) (Z_str (K := K) M) (by decide +kernel) (pa_cons (pv 4) pa_nil)))))) (pss_cons (ps_if (pt_cmpR (op_neA hr.units) (pv 2) (pv 1) (nomark _)) (pss_one (ps_set (i := 3) sc_law_lot_text.nd rfl (Or.inl rfl) (pe_op op_addA (pe_op op_addA (pv 3) pe_str) (pe_m1 PySem.F.slot_str_join PySem.F.type_str_join mt_joinA pe_str (pe_lc (own := [("place", 4)]) (g := (gName 4)) (tt := tYes) (by rfl) sc_law_lot_text.nd (pi_seq (pv 2)) (blkOk_by (own := [("place", 4)]) (N := N_law_lot_text) (sc := defScope s_law_lot_text) (by decide +kernel)) (fun _ _ _ _ _ => (pg_name (i := 4) sc_law_lot_text.nd rfl (Or.inl rfl))) (fun _ _ _ _ _ => pts_nil) (fun _ _ _ _ _ => (pe_callTy call_strI (by rfl) (Z_str (K := K) M) (by decide +kernel) (pa_cons (pv 4) pa_nil)))))))) pss_nil) (pss_cons (ps_if (pt_cmpR (op_neA hr.units) (pe_ix ix_seq (pv 0) pe_int (fun _ _ => rfl)) pe_int (nomark _)) (pss_one (ps_set (i := 3) sc_law_lot_text.nd rfl (Or.inl rfl) (pe_op op_addA (pe_op op_addA (pv 3) pe_str) (pe_callTy call_strI (by rfl) (Z_str (K := K) M) (by decide +kernel) (pa_cons (pe_ix ix_seq (pv 0) pe_int (fun _ _ => rfl)) pa_nil))))) pss_nil) (pss_one (ps_ret (pv 3))))))))
theorem der_law_lot (M : MgOk K mg) (G_Lot_init : Ok_Lot_init P w K mg base) {cdv : Value} {A : Around} {outer : List Env} {s : Shared} {H : Hp} {E : XK} (hr : Room 3 (A.deeper (envOfC "_law_lot" (defScope s_law_lot) s.heap.objs.size (at_law_lot K) cdv))) :
    PSs (cxOf (L2.CX P w) P w K mg base N_law_lot "_law_lot" (defScope s_law_lot) (at_law_lot K) cdv A outer s H E) (defBody s_law_lot) (t_law_lot K E) := by
  exact (pss_one (ps_ret (pe_make (mk_Lot (K := K)) G_Lot_init (hr.mono (by decide)) (by rfl) (M_Lot (K := K) M) (b_Lot_init (K := K)) .nil passL (pa_cons (pe_callTy call_listA (by rfl) (Z_list (K := K) M) (by decide +kernel) (pa_cons (pe_ix ix_seq (pv 0) pe_int (fun _ _ => rfl)) pa_nil)) (pa_cons (pe_callTy call_listA (by rfl) (Z_list (K := K) M) (by decide +kernel) (pa_cons (pe_ix ix_seq (pv 0) pe_int (fun _ _ => rfl)) pa_nil)) (pa_cons (pe_ix ix_seq (pv 0) pe_int (fun _ _ => rfl)) pa_nil))))))
theorem der_law_network (M : MgOk K mg) (G_Network_init : Ok_Network_init P w K mg base) (G_law_lot : Ok_law_lot P w K mg base) {cdv : Value} {A : Around} {outer : List Env} {s : Shared} {H : Hp} {E : XK} (hr : Room 5 (A.deeper (envOfC "_law_network" (defScope s_law_network) s.heap.objs.size (at_law_network K) cdv))) :
    PSs (cxOf (L2.CX P w) P w K mg base N_law_network "_law_network" (defScope s_law_network) (at_law_network K) cdv A outer s H E) (defBody s_law_network) (t_law_network K E) := by
  exact (pss_one (ps_ret (pe_make (mk_Network (K := K)) G_Network_init (hr.mono (by decide)) (by rfl) (M_Network (K := K) M) (b_Network_init (K := K)) .nil passL (pa_cons (pv 0) (pa_cons (pe_lc (own := [("row", 2)]) (g := (gName 2)) (tt := tYes) (by rfl) sc_law_network.nd (pi_seq (pv 1)) (blkOk_by (own := [("row", 2)]) (N := N_law_network) (sc := defScope s_law_network) (by decide +kernel)) (fun _ _ _ _ _ => (pg_name (i := 2) sc_law_network.nd rfl (Or.inl rfl))) (fun _ _ _ _ _ => pts_nil) (fun _ _ _ _ _ => (pe_call G_law_lot (hr.mono (by decide)) rfl (M_law_lot (K := K) M) (F_law_lot (K := K)).kp (b_law_lot (K := K)) .nil passL (pa_cons (pv 2) pa_nil)))) pa_nil)))))
theorem der_law_mode (M : MgOk K mg)  {cdv : Value} {A : Around} {outer : List Env} {s : Shared} {H : Hp} {E : XK} (hr : Room 0 (A.deeper (envOfC "_law_mode" (defScope s_law_mode) s.heap.objs.size (at_law_mode K) cdv))) :
    PSs (cxOf (L2.CX P w) P w K mg base N_law_mode "_law_mode" (defScope s_law_mode) (at_law_mode K) cdv A outer s H E) (defBody s_law_mode) (t_law_mode K E) := by
  exact (pss_cons (ps_if (pt_cmpR (op_eqA hr.units) (pv 0) pe_str (nomark _)) (pss_one (ps_ret (pe_mk0 (mk0_Gather (K := K)) (M_Gather (K := K) M)))) pss_nil) (pss_one (ps_ret (pe_mk0 (mk0_Spread (K := K)) (M_Spread (K := K) M)))))
theorem der_law_demand (M : MgOk K mg) (G_Demand_init : Ok_Demand_init P w K mg base) (G_law_mode : Ok_law_mode P w K mg base) {cdv : Value} {A : Around} {outer : List Env} {s : Shared} {H : Hp} {E : XK} (hr : Room 5 (A.deeper (envOfC "_law_demand" (defScope s_law_demand) s.heap.objs.size (at_law_demand K) cdv))) :
    PSs (cxOf (L2.CX P w) P w K mg base N_law_demand "_law_demand" (defScope s_law_demand) (at_law_demand K) cdv A outer s H E) (defBody s_law_demand) (t_law_demand K E) := by
  exact (pss_one (ps_ret (pe_make (mk_Demand (K := K)) G_Demand_init (hr.mono (by decide)) (by rfl) (M_Demand (K := K) M) (b_Demand_init (K := K)) .nil passL (pa_cons (pv 0) (pa_cons (pv 1) (pa_cons (pe_call G_law_mode (hr.mono (by decide)) rfl (M_law_mode (K := K) M) (F_law_mode (K := K)).kp (b_law_mode (K := K)) .nil passL (pa_cons (pv 2) pa_nil)) pa_nil))))))
theorem der_law_lot_is (M : MgOk K mg) (G_law_same : Ok_law_same P w K mg base 3) {cdv : Value} {A : Around} {outer : List Env} {s : Shared} {H : Hp} {E : XK} (hr : Room 4 (A.deeper (envOfC "_law_lot_is" (defScope s_law_lot_is) s.heap.objs.size (at_law_lot_is K) cdv))) :
    PSs (cxOf (L2.CX P w) P w K mg base N_law_lot_is "_law_lot_is" (defScope s_law_lot_is) (at_law_lot_is K) cdv A outer s H E) (defBody s_law_lot_is) (t_law_lot_is K E) := by
  exact (pss_cons (ps_if (PW.pt (pw_or (pt_not (pt_truth (pe_call G_law_same (hr.mono (by decide)) rfl (M_law_same (K := K) M) (F_law_same (K := K)).kp (b_law_same (K := K)) .nil passL (pa_cons (pe_fld (pv 0) rfl) (pa_cons (pe_callTy call_tupA (by rfl) (Z_tuple (K := K) M) (by decide +kernel) (pa_cons (pe_callB cr_sortedA (by rfl) (Z_sorted (K := K) M) (by decide +kernel) (pa_cons (pe_ix ix_seq (pv 1) pe_int (fun _ _ => rfl)) pa_nil)) pa_nil)) pa_nil))) (fun _ => rfl))) (pw_or1 (pt_not (pt_truth (pe_call G_law_same (hr.mono (by decide)) rfl (M_law_same (K := K) M) (F_law_same (K := K)).kp (b_law_same (K := K)) .nil passL (pa_cons (pe_fld (pv 0) rfl) (pa_cons (pe_ix ix_seq (pv 1) pe_int (fun _ _ => rfl)) pa_nil))) (fun _ => rfl)))))) (pss_one (ps_ret pe_bl)) pss_nil) (pss_one (ps_ret (pe_call G_law_same (hr.mono (by decide)) rfl (M_law_same (K := K) M) (F_law_same (K := K)).kp (b_law_same (K := K)) .nil passL (pa_cons (pe_fld (pv 0) rfl) (pa_cons (pe_callTy call_tupA (by rfl) (Z_tuple (K := K) M) (by decide +kernel) (pa_cons (pe_callB cr_sortedA (by rfl) (Z_sorted (K := K) M) (by decide +kernel) (pa_cons (pe_ix ix_seq (pv 1) pe_int (fun _ _ => rfl)) pa_nil)) pa_nil)) pa_nil))))))
theorem der_law_network_is (M : MgOk K mg) (G_law_same : Ok_law_same P w K mg base 3) (G_law_lot_is : Ok_law_lot_is P w K mg base) {cdv : Value} {A : Around} {outer : List Env} {s : Shared} {H : Hp} {E : XK} (hr : Room 5 (A.deeper (envOfC "_law_network_is" (defScope s_law_network_is) s.heap.objs.size (at_law_network_is K) cdv))) :
    PSs (cxOf (L2.CX P w) P w K mg base N_law_network_is "_law_network_is" (defScope s_law_network_is) (at_law_network_is K) cdv A outer s H E) (defBody s_law_network_is) (t_law_network_is K E) := by
  exact (pss_cons (ps_if (PW.pt (pw_or (pt_not (pt_truth (pe_call G_law_same (hr.mono (by decide)) rfl (M_law_same (K := K) M) (F_law_same (K := K)).kp (b_law_same (K := K)) .nil passL (pa_cons (pe_fld (pv 0) rfl) (pa_cons (pv 1) pa_nil))) (fun _ => rfl))) (pw_or (pt_not (pt_truth (pe_callB call_isiA (by rfl) (Z_isinstance (K := K) M) (by decide +kernel) (pa_cons (pe_fld (pv 0) rfl) (pa_cons (pe_bltn (v := .ty "tuple") (u := .type "tuple") (by rfl) (Z_tuple (K := K) M) (by decide +kernel) rfl) pa_nil))) (fun _ => rfl))) (pw_or1 (pt_cmpR (op_neA hr.units) (pe_callB call_lenA (by rfl) (Z_len (K := K) M) PySem.boot_len (pa_cons (pe_fld (pv 0) rfl) pa_nil)) (pe_callB call_lenA (by rfl) (Z_len (K := K) M) PySem.boot_len (pa_cons (pv 2) pa_nil)) (nomark _)))))) (pss_one (ps_ret pe_bl)) pss_nil) (pss_one (ps_ret (pe_cmpR (op_eqA hr.units) (pe_callB call_lenA (by rfl) (Z_len (K := K) M) PySem.boot_len (pa_cons (pe_lc (own := [("k", 3)]) (g := (gName 3)) (tt := (tNot (tTruA K (tCall (toSp (g_law_lot_is K)) [] E0 (tCons (tOp (rIx K) (tFld K (tVar 0) "lots") (tVar 3)) (tCons (tOp (rIx K) (tVar 2) (tVar 3)) tNil)))))) (by rfl) sc_law_network_is.nd (pi_range1 rfl (Z_range (K := K) M) (pa_cons (pe_callB call_lenA (by rfl) (Z_len (K := K) M) PySem.boot_len (pa_cons (pv 2) pa_nil)) pa_nil)) (blkOk_by (own := [("k", 3)]) (N := N_law_network_is) (sc := defScope s_law_network_is) (by decide +kernel)) (fun _ _ _ _ _ => (pg_name (i := 3) sc_law_network_is.nd rfl (Or.inl rfl))) (fun _ _ _ _ _ => (pts_one (pt_not (pt_truth (pe_call G_law_lot_is (hr.mono (by decide)) rfl (M_law_lot_is (K := K) M) (F_law_lot_is (K := K)).kp (b_law_lot_is (K := K)) .nil passL (pa_cons (pe_ix ix_seq (pe_fld (pv 0) rfl) (pv 3) (fun _ _ => rfl)) (pa_cons (pe_ix ix_seq (pv 2) (pv 3) (fun _ _ => rfl)) pa_nil))) (fun _ => rfl))))) (fun _ _ _ _ _ => (pv 3))) pa_nil)) pe_int (nomark _)))))
theorem der_law_demand_is (M : MgOk K mg) (G_law_same : Ok_law_same P w K mg base 3) {cdv : Value} {A : Around} {outer : List Env} {s : Shared} {H : Hp} {E : XK} (hr : Room 4 (A.deeper (envOfC "_law_demand_is" (defScope s_law_demand_is) s.heap.objs.size (at_law_demand_is K) cdv))) :
    PSs (cxOf (L2.CX P w) P w K mg base N_law_demand_is "_law_demand_is" (defScope s_law_demand_is) (at_law_demand_is K) cdv A outer s H E) (defBody s_law_demand_is) (t_law_demand_is K E) := by
  exact (pss_cons (ps_if (PW.pt (pw_or (pt_not (pt_truth (pe_call G_law_same (hr.mono (by decide)) rfl (M_law_same (K := K) M) (F_law_same (K := K)).kp (b_law_same (K := K)) .nil passL (pa_cons (pe_fld (pv 0) rfl) (pa_cons (pv 1) pa_nil))) (fun _ => rfl))) (pw_or1 (pt_not (pt_truth (pe_call G_law_same (hr.mono (by decide)) rfl (M_law_same (K := K) M) (F_law_same (K := K)).kp (b_law_same (K := K)) .nil passL (pa_cons (pe_fld (pv 0) rfl) (pa_cons (pv 2) pa_nil))) (fun _ => rfl)))))) (pss_one (ps_ret pe_bl)) pss_nil) (pss_one (ps_ret (pe_call G_law_same (hr.mono (by decide)) rfl (M_law_same (K := K) M) (F_law_same (K := K)).kp (b_law_same (K := K)) .nil passL (pa_cons (pe_con (pe_fld (pv 0) rfl) rfl) (pa_cons (pv 3) pa_nil))))))
theorem der_law_true (M : MgOk K mg)  {cdv : Value} {A : Around} {outer : List Env} {s : Shared} {H : Hp} {E : XK} (hr : Room 0 (A.deeper (envOfC "_law_true" (defScope s_law_true) s.heap.objs.size (at_law_true K) cdv))) :
    PSs (cxOf (L2.CX P w) P w K mg base N_law_true "_law_true" (defScope s_law_true) (at_law_true K) cdv A outer s H E) (defBody s_law_true) (t_law_true K E) := by
  exact (pss_cons (ps_if (pt_truth (pv 0) (fun _ => rfl)) (pss_one (ps_ret pe_bl)) pss_nil) (pss_one (ps_ret pe_bl)))
theorem der_law_repeated (M : MgOk K mg) (G_law_draw : Ok_law_draw P w K mg base) {cdv : Value} {A : Around} {outer : List Env} {s : Shared} {H : Hp} {E : XK} (hr : Room 2 (A.deeper (envOfC "_law_repeated" (defScope s_law_repeated) s.heap.objs.size (at_law_repeated K) cdv))) :
    PSs (cxOf (L2.CX P w) P w K mg base N_law_repeated "_law_repeated" (defScope s_law_repeated) (at_law_repeated K) cdv A outer s H E) (defBody s_law_repeated) (t_law_repeated K E) := by
  exact (pss_cons (ps_if (PW.pt (pw_or (pt_cmpR (op_eqA hr.units) (pe_callB call_lenA (by rfl) (Z_len (K := K) M) PySem.boot_len (pa_cons (pv 1) pa_nil)) pe_int (nomark _)) (pw_or1 (pt_cmpR (op_neA hr.units) (pe_call G_law_draw (hr.mono (by decide)) rfl (M_law_draw (K := K) M) (F_law_draw (K := K)).kp (b_law_draw (K := K)) .nil passL (pa_cons (pv 0) (pa_cons pe_int pa_nil))) pe_int (nomark _))))) (pss_one (ps_ret (pv 1))) pss_nil) (pss_one (ps_ret (pe_lc (own := [("k", 2)]) (g := (gName 2)) (tt := tYes) (by rfl) sc_law_repeated.nd (pi_range1 rfl (Z_range (K := K) M) (pa_cons (pe_call G_law_draw (hr.mono (by decide)) rfl (M_law_draw (K := K) M) (F_law_draw (K := K)).kp (b_law_draw (K := K)) .nil passL (pa_cons (pv 0) (pa_cons pe_int pa_nil))) pa_nil)) (blkOk_by (own := [("k", 2)]) (N := N_law_repeated) (sc := defScope s_law_repeated) (by decide +kernel)) (fun _ _ _ _ _ => (pg_name (i := 2) sc_law_repeated.nd rfl (Or.inl rfl))) (fun _ _ _ _ _ => pts_nil) (fun _ _ _ _ _ => (pe_ix ix_seq (pv 1) (pe_op op_modA (pv 2) (pe_callB call_lenA (by rfl) (Z_len (K := K) M) PySem.boot_len (pa_cons (pv 1) pa_nil))) (fun _ _ => rfl)))))))
theorem der_law_network_text (M : MgOk K mg) (G_law_lot_text : Ok_law_lot_text P w K mg base) {cdv : Value} {A : Around} {outer : List Env} {s : Shared} {H : Hp} {E : XK} (hr : Room 1 (A.deeper (envOfC "_law_network_text" (defScope s_law_network_text) s.heap.objs.size (at_law_network_text K) cdv))) :
    PSs (cxOf (L2.CX P w) P w K mg base N_law_network_text "_law_network_text" (defScope s_law_network_text) (at_law_network_text K) cdv A outer s H E) (defBody s_law_network_text) (t_law_network_text K E) := by
  exact (pss_cons (ps_set (i := 5) sc_law_network_text.nd rfl (Or.inl rfl) (pe_lst (pa_cons (pe_op op_addA pe_str (pe_callTy call_strI (by rfl) (Z_str (K := K) M) (by decide +kernel) (pa_cons (pv 0) pa_nil))) (pa_cons (pe_op op_addA pe_str (pe_callTy call_strI (by rfl) (Z_str (K := K) M) (by decide +kernel) (pa_cons (pv 1) pa_nil))) (pa_cons (pe_op op_addA pe_str (pe_callTy call_strI (by rfl) (Z_str (K := K) M) (by decide +kernel) (pa_cons (pv 2) pa_nil))) (pa_cons (pe_op op_addA pe_str (pv 3)) pa_nil)))))) (pss_one (ps_ret (pe_m1 PySem.F.slot_str_join PySem.F.type_str_join mt_joinA pe_str (pe_op op_addA (pv 5) (pe_lc (own := [("row", 6)]) (g := (gName 6)) (tt := tYes) (by rfl) sc_law_network_text.nd (pi_seq (pv 4)) (blkOk_by (own := [("row", 6)]) (N := N_law_network_text) (sc := defScope s_law_network_text) (by decide +kernel)) (fun _ _ _ _ _ => (pg_name (i := 6) sc_law_network_text.nd rfl (Or.inl rfl))) (fun _ _ _ _ _ => pts_nil) (fun _ _ _ _ _ => (pe_op op_addA pe_str (pe_call G_law_lot_text (hr.mono (by decide)) rfl (M_law_lot_text (K := K) M) (F_law_lot_text (K := K)).kp (b_law_lot_text (K := K)) .nil passL (pa_cons (pv 6) pa_nil))))))))))
theorem der_law_case (M : MgOk K mg) (G_law_draw : Ok_law_draw P w K mg base) (G_law_pick : Ok_law_pick P w K mg base) (G_law_repeated : Ok_law_repeated P w K mg base) (G_law_rows : Ok_law_rows P w K mg base) {cdv : Value} {A : Around} {outer : List Env} {s : Shared} {H : Hp} {E : XK} (hr : Room 6 (A.deeper (envOfC "_law_case" (defScope s_law_case) s.heap.objs.size (at_law_case K) cdv))) :
    PSs (cxOf (L2.CX P w) P w K mg base N_law_case "_law_case" (defScope s_law_case) (at_law_case K) cdv A outer s H E) (defBody s_law_case) (t_law_case K E) := by
  exact (pss_cons (ps_set (i := 1) sc_law_case.nd rfl (Or.inl rfl) (pe_op op_addA pe_int (pe_call G_law_draw (hr.mono (by decide)) rfl (M_law_draw (K := K) M) (F_law_draw (K := K)).kp (b_law_draw (K := K)) .nil passL (pa_cons (pv 0) (pa_cons pe_int pa_nil))))) (pss_cons (ps_set (i := 2) sc_law_case.nd rfl (Or.inl rfl) (pe_call G_law_draw (hr.mono (by decide)) rfl (M_law_draw (K := K) M) (F_law_draw (K := K)).kp (b_law_draw (K := K)) .nil passL (pa_cons (pv 0) (pa_cons (pv 1) pa_nil)))) (pss_cons (ps_set (i := 3) sc_law_case.nd rfl (Or.inl rfl) (pe_call G_law_draw (hr.mono (by decide)) rfl (M_law_draw (K := K) M) (F_law_draw (K := K)).kp (b_law_draw (K := K)) .nil passL (pa_cons (pv 0) (pa_cons pe_int pa_nil)))) (pss_cons (ps_set (i := 4) sc_law_case.nd rfl (Or.inl rfl) (pe_call G_law_pick (hr.mono (by decide)) rfl (M_law_pick (K := K) M) (F_law_pick (K := K)).kp (b_law_pick (K := K)) .nil passL (pa_cons (pv 0) (pa_cons (pe_lst (pa_cons pe_str (pa_cons pe_str pa_nil))) pa_nil)))) (pss_cons (ps_set (i := 5) sc_law_case.nd rfl (Or.inl rfl) (pe_call G_law_repeated (hr.mono (by decide)) rfl (M_law_repeated (K := K) M) (F_law_repeated (K := K)).kp (b_law_repeated (K := K)) .nil passL (pa_cons (pv 0) (pa_cons (pe_call G_law_rows (hr.mono (by decide)) rfl (M_law_rows (K := K) M) (F_law_rows (K := K)).kp (b_law_rows (K := K)) .nil passL (pa_cons (pv 0) (pa_cons (pv 1) (pa_cons pe_int (pa_cons (pe_cmpR (op_eqA hr.units) (pe_call G_law_draw (hr.mono (by decide)) rfl (M_law_draw (K := K) M) (F_law_draw (K := K)).kp (b_law_draw (K := K)) .nil passL (pa_cons (pv 0) (pa_cons pe_int pa_nil))) pe_int (nomark _)) pa_nil))))) pa_nil)))) (pss_one (ps_ret (pe_tup (pa_cons (pv 1) (pa_cons (pv 2) (pa_cons (pv 3) (pa_cons (pv 4) (pa_cons (pv 5) pa_nil)))))))))))))
theorem der_Lot_eq (M : MgOk K mg)  {cdv : Value} {A : Around} {outer : List Env} {s : Shared} {H : Hp} {E : XK} (hr : Room 0 (A.deeper (envOfC "Lot.__eq__" (defScope s_Lot_eq) s.heap.objs.size (at_Lot_eq K) cdv))) :
    PSs (cxOf (L2.CX P w) P w K mg base N_Lot_eq "Lot.__eq__" (defScope s_Lot_eq) (at_Lot_eq K) cdv A outer s H E) (defBody s_Lot_eq) (t_Lot_eq K E) := by
  exact (pss_cons (ps_if (pt_not (pt_truth (pe_callB call_isiA (by rfl) (Z_isinstance (K := K) M) (by decide +kernel) (pa_cons (pv 1) (pa_cons (pe_glob rfl (M_Lot (K := K) M) rfl) pa_nil))) (fun _ => rfl))) (pss_one ps_bad) pss_nil) (pss_one (ps_ret (pe_cmpR (op_eqA hr.units) (pe_tup (pa_cons (pe_fld (pv 0) rfl) (pa_cons (pe_fld (pv 0) rfl) (pa_cons (pe_fld (pv 0) rfl) pa_nil)))) (pe_tup (pa_cons (pe_fld (pv 1) rfl) (pa_cons (pe_fld (pv 1) rfl) (pa_cons (pe_fld (pv 1) rfl) pa_nil)))) (nomark _)))))
theorem der_Network_eq (M : MgOk K mg) (G_Lot_eq : Ok_Lot_eq P w K mg base) {cdv : Value} {A : Around} {outer : List Env} {s : Shared} {H : Hp} {E : XK} (hr : Room 2 (A.deeper (envOfC "Network.__eq__" (defScope s_Network_eq) s.heap.objs.size (at_Network_eq K) cdv))) :
    PSs (cxOf (L2.CX P w) P w K mg base N_Network_eq "Network.__eq__" (defScope s_Network_eq) (at_Network_eq K) cdv A outer s H E) (defBody s_Network_eq) (t_Network_eq K E) := by
  exact (pss_one (ps_ret (pe_and (pe_callB call_isiA (by rfl) (Z_isinstance (K := K) M) (by decide +kernel) (pa_cons (pv 1) (pa_cons (pe_glob rfl (M_Network (K := K) M) rfl) pa_nil))) (pe_and (pe_cmpR (op_eqA hr.units) (pe_fld (pv 0) rfl) (pe_fld (pv 1) rfl) (nomark _)) (pe_one (pe_cmpR (op_eqG (rcG_tup mon_own (eq_own G_Lot_eq (mt_Lot_eq (K := K)).at_ (mt_Lot_eq (K := K)).fn (b_Lot_eq (K := K)) passL)) (hr.mono (by decide))) (pe_fld (pv 0) rfl) (pe_fld (pv 1) rfl) (nomark _)))))))
theorem der_Demand_eq (M : MgOk K mg)  {cdv : Value} {A : Around} {outer : List Env} {s : Shared} {H : Hp} {E : XK} (hr : Room 0 (A.deeper (envOfC "Demand.__eq__" (defScope s_Demand_eq) s.heap.objs.size (at_Demand_eq K) cdv))) :
    PSs (cxOf (L2.CX P w) P w K mg base N_Demand_eq "Demand.__eq__" (defScope s_Demand_eq) (at_Demand_eq K) cdv A outer s H E) (defBody s_Demand_eq) (t_Demand_eq K E) := by
  exact (pss_cons (ps_if (pt_not (pt_truth (pe_callB call_isiA (by rfl) (Z_isinstance (K := K) M) (by decide +kernel) (pa_cons (pv 1) (pa_cons (pe_glob rfl (M_Demand (K := K) M) rfl) pa_nil))) (fun _ => rfl))) (pss_one ps_bad) pss_nil) (pss_one (ps_ret (pe_cmpR (op_eqA hr.units) (pe_tup (pa_cons (pe_fld (pv 0) rfl) (pa_cons (pe_fld (pv 0) rfl) (pa_cons (pe_fld (pv 0) rfl) pa_nil)))) (pe_tup (pa_cons (pe_fld (pv 1) rfl) (pa_cons (pe_fld (pv 1) rfl) (pa_cons (pe_fld (pv 1) rfl) pa_nil)))) (nomark _)))))
theorem der_law_back (M : MgOk K mg) (G_law_network_text : Ok_law_network_text P w K mg base) (G_law_network : Ok_law_network P w K mg base) (G_law_demand : Ok_law_demand P w K mg base) (G_law_same : Ok_law_same P w K mg base 3) (G_write_network : Ok_write_network P w K mg base) (G_read_network : Ok_read_network P w K mg base) (G_law_network_is : Ok_law_network_is P w K mg base) (G_law_demand_is : Ok_law_demand_is P w K mg base) (G_law_true : Ok_law_true P w K mg base) (G_Network_eq : Ok_Network_eq P w K mg base) (G_Demand_eq : Ok_Demand_eq P w K mg base) {cdv : Value} {A : Around} {outer : List Env} {s : Shared} {H : Hp} {E : XK} (hr : Room 6 (A.deeper (envOfC "_law_back" (defScope s_law_back) s.heap.objs.size (at_law_back K) cdv))) :
    PSs (cxOf (L2.CX P w) P w K mg base N_law_back "_law_back" (defScope s_law_back) (at_law_back K) cdv A outer s H E) (defBody s_law_back) (t_law_back K E) := by
  exact (pss_cons (ps_set (i := 1) sc_law_back.nd rfl (Or.inl rfl) (pe_call G_law_network_text (hr.mono (by decide)) rfl (M_law_network_text (K := K) M) (F_law_network_text (K := K)).kp (b_law_network_text (K := K)) .nil passL (pa_cons (pe_ix ix_seq (pv 0) pe_int (fun _ _ => rfl)) (pa_cons (pe_ix ix_seq (pv 0) pe_int (fun _ _ => rfl)) (pa_cons (pe_ix ix_seq (pv 0) pe_int (fun _ _ => rfl)) (pa_cons (pe_ix ix_seq (pv 0) pe_int (fun _ _ => rfl)) (pa_cons (pe_ix ix_seq (pv 0) pe_int (fun _ _ => rfl)) pa_nil))))))) (pss_cons (ps_set (i := 2) sc_law_back.nd rfl (Or.inl rfl) (pe_call G_law_network (hr.mono (by decide)) rfl (M_law_network (K := K) M) (F_law_network (K := K)).kp (b_law_network (K := K)) .nil passL (pa_cons (pe_ix ix_seq (pv 0) pe_int (fun _ _ => rfl)) (pa_cons (pe_ix ix_seq (pv 0) pe_int (fun _ _ => rfl)) pa_nil)))) (pss_cons (ps_set (i := 3) sc_law_back.nd rfl (Or.inl rfl) (pe_call G_law_demand (hr.mono (by decide)) rfl (M_law_demand (K := K) M) (F_law_demand (K := K)).kp (b_law_demand (K := K)) .nil passL (pa_cons (pe_ix ix_seq (pv 0) pe_int (fun _ _ => rfl)) (pa_cons (pe_ix ix_seq (pv 0) pe_int (fun _ _ => rfl)) (pa_cons (pe_ix ix_seq (pv 0) pe_int (fun _ _ => rfl)) pa_nil))))) (pss_cons (ps_if (pt_not (pt_truth (pe_call G_law_same (hr.mono (by decide)) rfl (M_law_same (K := K) M) (F_law_same (K := K)).kp (b_law_same (K := K)) .nil passL (pa_cons (pe_call G_write_network (hr.mono (by decide)) rfl (M_write_network (K := K) M) (F_write_network (K := K)).kp (b_write_network (K := K)) .nil passL (pa_cons (pv 2) (pa_cons (pv 3) pa_nil))) (pa_cons (pv 1) pa_nil))) (fun _ => rfl))) (pss_one (ps_ret pe_bl)) pss_nil) (pss_cons (ps_set (i := 4) sc_law_back.nd rfl (Or.inl rfl) (pe_call G_read_network (hr.mono (by decide)) rfl (M_read_network (K := K) M) (F_read_network (K := K)).kp (b_read_network (K := K)) .nil passL (pa_cons (pv 1) pa_nil))) (pss_cons (ps_if (PW.pt (pw_or (pt_not (pt_truth (pe_callB call_isiA (by rfl) (Z_isinstance (K := K) M) (by decide +kernel) (pa_cons (pv 4) (pa_cons (pe_bltn (v := .ty "tuple") (u := .type "tuple") (by rfl) (Z_tuple (K := K) M) (by decide +kernel) rfl) pa_nil))) (fun _ => rfl))) (pw_or1 (pt_cmpR (op_neA hr.units) (pe_callB call_lenA (by rfl) (Z_len (K := K) M) PySem.boot_len (pa_cons (pv 4) pa_nil)) pe_int (nomark _))))) (pss_one (ps_ret pe_bl)) pss_nil) (pss_cons (ps_if (PW.pt (pw_or (pt_not (pt_truth (pe_call G_law_network_is (hr.mono (by decide)) rfl (M_law_network_is (K := K) M) (F_law_network_is (K := K)).kp (b_law_network_is (K := K)) .nil passL (pa_cons (pe_ix ix_seq (pv 4) pe_int (fun _ _ => rfl)) (pa_cons (pe_ix ix_seq (pv 0) pe_int (fun _ _ => rfl)) (pa_cons (pe_ix ix_seq (pv 0) pe_int (fun _ _ => rfl)) pa_nil)))) (fun _ => rfl))) (pw_or1 (pt_not (pt_truth (pe_call G_law_demand_is (hr.mono (by decide)) rfl (M_law_demand_is (K := K) M) (F_law_demand_is (K := K)).kp (b_law_demand_is (K := K)) .nil passL (pa_cons (pe_ix ix_seq (pv 4) pe_int (fun _ _ => rfl)) (pa_cons (pe_ix ix_seq (pv 0) pe_int (fun _ _ => rfl)) (pa_cons (pe_ix ix_seq (pv 0) pe_int (fun _ _ => rfl)) (pa_cons (pe_ix ix_seq (pv 0) pe_int (fun _ _ => rfl)) pa_nil))))) (fun _ => rfl)))))) (pss_one (ps_ret pe_bl)) pss_nil) (pss_cons (ps_if (PW.pt (pw_or (pt_cmpR (op_neA hr.units) (pe_callB call_isiA (by rfl) (Z_isinstance (K := K) M) (by decide +kernel) (pa_cons (pe_fld (pe_ix ix_seq (pv 4) pe_int (fun _ _ => rfl)) rfl) (pa_cons (pe_glob rfl (M_Gather (K := K) M) rfl) pa_nil))) (pe_cmpR (op_eqA hr.units) (pe_ix ix_seq (pv 0) pe_int (fun _ _ => rfl)) pe_str (nomark _)) (nomark _)) (pw_or1 (pt_cmpR (op_neA hr.units) (pe_callB call_isiA (by rfl) (Z_isinstance (K := K) M) (by decide +kernel) (pa_cons (pe_fld (pe_ix ix_seq (pv 4) pe_int (fun _ _ => rfl)) rfl) (pa_cons (pe_glob rfl (M_Spread (K := K) M) rfl) pa_nil))) (pe_cmpR (op_eqA hr.units) (pe_ix ix_seq (pv 0) pe_int (fun _ _ => rfl)) pe_str (nomark _)) (nomark _))))) (pss_one (ps_ret pe_bl)) pss_nil) (pss_cons (ps_if (PW.pt (pw_or (pt_not (pt_truth (pe_call G_law_true (hr.mono (by decide)) rfl (M_law_true (K := K) M) (F_law_true (K := K)).kp (b_law_true (K := K)) .nil passL (pa_cons (pe_cmpR (op_eqG (rc_own G_Network_eq (mt_Network_eq (K := K)).at_ (mt_Network_eq (K := K)).fn (b_Network_eq (K := K)) passL) (hr.mono (by decide))) (pe_ix ix_seq (pv 4) pe_int (fun _ _ => rfl)) (pv 2) (nomark _)) pa_nil)) (fun _ => rfl))) (pw_or1 (pt_not (pt_truth (pe_call G_law_true (hr.mono (by decide)) rfl (M_law_true (K := K) M) (F_law_true (K := K)).kp (b_law_true (K := K)) .nil passL (pa_cons (pe_cmpR (op_eqG (rc_own G_Demand_eq (mt_Demand_eq (K := K)).at_ (mt_Demand_eq (K := K)).fn (b_Demand_eq (K := K)) passL) (hr.mono (by decide))) (pe_ix ix_seq (pv 4) pe_int (fun _ _ => rfl)) (pv 3) (nomark _)) pa_nil)) (fun _ => rfl)))))) (pss_one (ps_ret pe_bl)) pss_nil) (pss_one (ps_ret (pe_call G_law_same (hr.mono (by decide)) rfl (M_law_same (K := K) M) (F_law_same (K := K)).kp (b_law_same (K := K)) .nil passL (pa_cons (pe_call G_write_network (hr.mono (by decide)) rfl (M_write_network (K := K) M) (F_write_network (K := K)).kp (b_write_network (K := K)) .nil passL (pa_cons (pe_ix ix_seq (pv 4) pe_int (fun _ _ => rfl)) (pa_cons (pe_ix ix_seq (pv 4) pe_int (fun _ _ => rfl)) pa_nil))) (pa_cons (pv 1) pa_nil))))))))))))))
theorem der_law_refused (M : MgOk K mg) (G_write_network : Ok_write_network P w K mg base) {cdv : Value} {A : Around} {outer : List Env} {s : Shared} {H : Hp} {E : XK} (hr : Room 4 (A.deeper (envOfC "_law_refused" (defScope s_law_refused) s.heap.objs.size (at_law_refused K) cdv))) :
    PSs (cxOf (L2.CX P w) P w K mg base N_law_refused "_law_refused" (defScope s_law_refused) (at_law_refused K) cdv A outer s H E) (defBody s_law_refused) (t_law_refused K E) := by
  have tk := takes_of (X := (cxOf (L2.CX P w) P w K mg base N_law_refused "_law_refused" (defScope s_law_refused) (at_law_refused K) cdv A outer s H E)) rfl rfl rfl rfl
  exact (pss_cons (ps_try_as (tb := fun Wx => (fun E => (tDrop (tCall (toSp (g_write_network K)) [] E (tCons (tVar 0) (tCons (tVar 1) tNil))))) fun cls d H => ∀ σ : L2.St, σ.length = 3 → Wx cls d σ H) (i := 2) (ts := fun a cls d => (tRet (tTup (tCons (tC (.str "refused")) (tCons (tXf a cls d (He.ga K "PlaceOutOfRange") "place" (tVar 2)) tNil))))) rfl rfl sc_law_refused.nd rfl rfl ⟨rfl, by decide, Or.inl (M_PlaceOutOfRange (K := K) M)⟩ tk (fun Wx pn xe tk1 _ => (pss_one (ps_expr (pe_call G_write_network (hr.mono (by decide)) rfl (M_write_network (K := K) M) (F_write_network (K := K)).kp (b_write_network (K := K)) .nil (passes_callN tk1 rfl fun _ _ σ _ hl h => h σ hl) (pa_cons (pv 0) (pa_cons (pv 1) pa_nil)))))) (fun a oe cls d pn hz hf => (pss_one (ps_ret (pe_tup (pa_cons pe_str (pa_cons (pe_xf (xf_PlaceOutOfRange (K := K)) (na_PlaceOutOfRange_place (K := K)) hz hf (pv 2)) pa_nil))))))) (pss_one (ps_ret (pe_tup (pa_cons pe_str (pa_cons pe_int pa_nil))))))
theorem der_law (M : MgOk K mg) (G_law_source : Ok_law_source P w K mg base) (G_law_case : Ok_law_case P w K mg base) (G_law_back : Ok_law_back P w K mg base) (G_law_draw : Ok_law_draw P w K mg base) (G_law_refused : Ok_law_refused P w K mg base) (G_law_network : Ok_law_network P w K mg base) (G_law_demand : Ok_law_demand P w K mg base) (G_law_same : Ok_law_same P w K mg base 3) {cdv : Value} {A : Around} {outer : List Env} {s : Shared} {H : Hp} {E : XK} (hr : Room 7 (A.deeper (envOfC "law" (defScope s_law) s.heap.objs.size (at_law K) cdv))) :
    PSs (cxOf (L2.CX P w) P w K mg base N_law "law" (defScope s_law) (at_law K) cdv A outer s H E) (defBody s_law) (t_law K E) := by
  have hp : PassesOwn (model P w) (cxOf (L2.CX P w) P w K mg base N_law "law" (defScope s_law) (at_law K) cdv A outer s H E).A (cxOf (L2.CX P w) P w K mg base N_law "law" (defScope s_law) (at_law K) cdv A outer s H E).env (cxOf (L2.CX P w) P w K mg base N_law "law" (defScope s_law) (at_law K) cdv A outer s H E).xe := passes_of rfl
  exact (pss_cons (ps_set (i := 1) sc_law.nd rfl (Or.inl rfl) (pe_call G_law_source (hr.mono (by decide)) rfl (M_law_source (K := K) M) (F_law_source (K := K)).kp (b_law_source (K := K)) .nil passL (pa_cons (pv 0) pa_nil))) (pss_cons (ps_set (i := 2) sc_law.nd rfl (Or.inl rfl) (pe_call G_law_case (hr.mono (by decide)) rfl (M_law_case (K := K) M) (F_law_case (K := K)).kp (b_law_case (K := K)) .nil passL (pa_cons (pv 1) pa_nil))) (pss_cons (ps_set (i := 3) sc_law.nd rfl (Or.inl rfl) (pe_call G_law_case (hr.mono (by decide)) rfl (M_law_case (K := K) M) (F_law_case (K := K)).kp (b_law_case (K := K)) .nil passL (pa_cons (pv 1) pa_nil))) (pss_cons (ps_for hp rfl (pi_seq (pe_lst (pa_cons (pv 2) (pa_cons (pv 3) (pa_cons (pv 2) pa_nil))))) (pg_name (i := 4) sc_law.nd rfl (Or.inl rfl)) (pss_cons (ps_if (pt_not (pt_truth (pe_call G_law_back (hr.mono (by decide)) rfl (M_law_back (K := K) M) (F_law_back (K := K)).kp (b_law_back (K := K)) .nil passL (pa_cons (pv 4) pa_nil)) (fun _ => rfl))) (pss_one (ps_ret pe_bl)) pss_nil) (pss_one (ps_if (pt_cmpR op_ltA (pe_ix ix_seq (pv 4) pe_int (fun _ _ => rfl)) pe_int (nomark _)) (pss_cons (ps_set (i := 5) sc_law.nd rfl (Or.inl rfl) (pe_op op_addA (pe_ix ix_seq (pv 4) pe_int (fun _ _ => rfl)) (pe_call G_law_draw (hr.mono (by decide)) rfl (M_law_draw (K := K) M) (F_law_draw (K := K)).kp (b_law_draw (K := K)) .nil passL (pa_cons (pv 1) (pa_cons (pe_op op_subA pe_int (pe_ix ix_seq (pv 4) pe_int (fun _ _ => rfl))) pa_nil))))) (pss_cons (ps_set (i := 6) sc_law.nd rfl (Or.inl rfl) (pe_call G_law_refused (hr.mono (by decide)) rfl (M_law_refused (K := K) M) (F_law_refused (K := K)).kp (b_law_refused (K := K)) .nil passL (pa_cons (pe_call G_law_network (hr.mono (by decide)) rfl (M_law_network (K := K) M) (F_law_network (K := K)).kp (b_law_network (K := K)) .nil passL (pa_cons (pe_ix ix_seq (pv 4) pe_int (fun _ _ => rfl)) (pa_cons (pe_ix ix_seq (pv 4) pe_int (fun _ _ => rfl)) pa_nil))) (pa_cons (pe_call G_law_demand (hr.mono (by decide)) rfl (M_law_demand (K := K) M) (F_law_demand (K := K)).kp (b_law_demand (K := K)) .nil passL (pa_cons (pv 5) (pa_cons (pe_ix ix_seq (pv 4) pe_int (fun _ _ => rfl)) (pa_cons (pe_ix ix_seq (pv 4) pe_int (fun _ _ => rfl)) pa_nil)))) pa_nil)))) (pss_one (ps_if (pt_not (pt_truth (pe_call G_law_same (hr.mono (by decide)) rfl (M_law_same (K := K) M) (F_law_same (K := K)).kp (b_law_same (K := K)) .nil passL (pa_cons (pv 6) (pa_cons (pe_tup (pa_cons pe_str (pa_cons (pv 5) pa_nil))) pa_nil))) (fun _ => rfl))) (pss_one (ps_ret pe_bl)) pss_nil)))) pss_nil)))) (pss_one (ps_ret pe_bl))))))
end
end K63

set_option Elab.async false
set_option linter.all false
set_option maxRecDepth 100000
set_option maxHeartbeats 2000000
set_option autoImplicit false
/-! The texts, plainly: a written network read back. -/
namespace K63
open PySem PySem.Spec PyProof.Rows L2 S TL

/-! ### joined lists -/
theorem joinL_cons {S : List Nat} {p : List Nat} {r : List (List Nat)} (h : r ≠ []) : joinL S (p :: r) = p ++ (S ++ joinL S r) := by
  cases r with
  | nil => exact absurd rfl h
  | cons q r => rfl
theorem joinL_app {S : List Nat} : ∀ {a b : List (List Nat)}, a ≠ [] → b ≠ [] → joinL S (a ++ b) = joinL S a ++ (S ++ joinL S b)
  | [], _, h, _ => absurd rfl h
  | [p], b, _, hb => by rw [List.singleton_append, joinL_cons hb]; rfl
  | p :: q :: r, b, _, hb => by
    rw [List.cons_append, joinL_cons (by simp), joinL_app (by simp) hb, joinL_cons (p := p) (r := q :: r) (by simp)]
    simp only [List.append_assoc]
theorem joinL_flat {S : List Nat} : ∀ {qs : List (List (List Nat))}, (∀ q ∈ qs, q ≠ []) → joinL S (qs.map (joinL S)) = joinL S qs.flatten
  | [], _ => rfl
  | [q], _ => by simp [joinL]
  | q :: q2 :: r, h => by
    have h2 : ∀ z ∈ q2 :: r, z ≠ [] := fun z hz => h z (List.mem_cons_of_mem _ hz)
    have hne : (q2 :: r).flatten ≠ [] := fun e => h2 q2 List.mem_cons_self (by
      rw [List.flatten_cons] at e
      exact (List.append_eq_nil_iff.mp e).1)
    rw [List.map_cons, joinL_cons (by simp), joinL_flat h2, show (q :: q2 :: r).flatten = q ++ (q2 :: r).flatten from rfl, joinL_app (h q List.mem_cons_self) hne]
theorem not_joinL {s : Nat} {S : List Nat} (hs : s ∉ S) : ∀ {ps : List (List Nat)}, (∀ p ∈ ps, s ∉ p) → s ∉ joinL S ps
  | [], _ => by simp [joinL]
  | [p], h => h p List.mem_cons_self
  | p :: q :: r, h => by
    rw [joinL_cons (by simp), List.mem_append, List.mem_append]
    rintro (h1 | h1 | h1)
    · exact h p List.mem_cons_self h1
    · exact hs h1
    · exact not_joinL hs (fun z hz => h z (List.mem_cons_of_mem _ hz)) h1
theorem joinL_len {S : List Nat} (k : Nat) : ∀ {ps : List (List Nat)}, (∀ p ∈ ps, p.length ≤ k) → (joinL S ps).length ≤ ps.length * (k + S.length)
  | [], _ => by simp [joinL]
  | [p], h => by have := h p List.mem_cons_self; simp [joinL]; omega
  | p :: q :: r, h => by
    have h1 := h p List.mem_cons_self
    have h2 := joinL_len k (S := S) (ps := q :: r) fun z hz => h z (List.mem_cons_of_mem _ hz)
    rw [joinL_cons (by simp), List.length_append, List.length_append, List.length_cons (as := q :: r), Nat.succ_mul]
    omega
theorem tl_j (y : Str) (ps : List Str) : tl (Txt.join y ps) = joinL (tl y) (ps.map tl) := by rw [join_eq, tl_join]
theorem tl_sp : tl (" " : Str) = [32] := rfl
theorem tl_nl : tl ("\n" : Str) = [10] := rfl

/-! ### numbers -/
theorem mem_digs {c : Nat} : c ∈ digs.cps.toList ↔ 48 ≤ c ∧ c ≤ 57 := by
  have e : digs.cps.toList = [48, 49, 50, 51, 52, 53, 54, 55, 56, 57] := rfl
  rw [e]
  simp only [List.mem_cons, List.not_mem_nil, or_false]
  omega
theorem numL_head : ∀ (n : Nat), 0 < n → ∀ c r, numL n = c :: r → c ≠ 48 := by
  intro n
  induction n using Nat.strongRecOn with
  | ind n ih =>
    intro hn c r e
    by_cases h : n < 10
    · rw [numL_lt h] at e
      cases e
      omega
    · rw [numL_step (by omega)] at e
      cases q : numL (n / 10) with
      | nil => exact absurd q (numL_ne _)
      | cons d t =>
        rw [q] at e
        cases e
        exact ih (n / 10) (by omega) (by omega) _ _ q
theorem len_ofNat (w : Str) : w.length = w.cps.toList.length := rfl
theorem numIn_txI {v l m : Int} (h0 : 0 ≤ v) (h1 : v < 10000000000) (hl : l ≤ v) (hm : v ≤ m) : numIn (txI v) l m = some v := by
  have e := txI_tl h0
  have hlen : (txI v).length ≤ 10 := txI_len h0 (by decide) (by simpa using h1)
  have hne : (txI v).length ≠ 0 := by
    rw [len_tl, e]
    exact fun h => numL_ne _ (List.length_eq_zero_iff.mp h)
  unfold numIn
  rw [if_neg (by omega), if_neg, if_neg, show PySem.intText? (txI v) = some v from ?_]
  · show (if v < l ∨ m < v then none else some v) = some v
    rw [if_neg (by omega)]
  · have q := int_num (n := v.toNat) (by rw [← e, ← len_tl]; omega)
    have ev : ((v.toNat : Nat) : Int) = v := by omega
    rw [ev] at q
    exact q
  · rintro ⟨a, b⟩
    have e2 : (txI v).cps.toList = numL v.toNat := e
    rw [e2] at a
    cases q : numL v.toNat with
    | nil => exact absurd q (numL_ne _)
    | cons c r =>
      rw [q] at a
      have ec : c = 48 := by simpa using a
      by_cases hv : 0 < v.toNat
      · exact numL_head _ hv c r q ec
      · have z : v.toNat = 0 := by omega
        rw [len_tl, e, z] at b
        exact absurd b (by decide)
  · rw [Bool.not_eq_false, List.all_eq_true]
    intro c hc
    have e2 : (txI v).cps.toList = numL v.toNat := e
    rw [e2] at hc
    exact decide_eq_true (mem_digs.mpr (numL_digits _ c hc))
theorem numIn_word {w : Str} {l m : Int} (h : w.cps.toList.all (fun c => decide (c ∈ digs.cps.toList)) = false) : numIn w l m = none := by
  unfold numIn
  by_cases h1 : w.length = 0 ∨ 10 < w.length
  · rw [if_pos h1]
  · rw [if_neg h1, if_pos h]
theorem leadP_map : ∀ {ms : List Int} {r : List Str}, (∀ z ∈ ms, 0 ≤ z ∧ z < 12) → (∀ w ∈ r.head?, numIn w 0 11 = none) → leadP (ms.map txI ++ r) = ms
  | [], [], _, _ => rfl
  | [], w :: r, _, h => by
    have q := h w rfl
    show leadP (w :: r) = []
    unfold leadP
    rw [q]
  | z :: ms, r, h, hr => by
    have hz := h z List.mem_cons_self
    show leadP (txI z :: (ms.map txI ++ r)) = z :: ms
    unfold leadP
    rw [numIn_txI hz.1 (by omega) hz.1 (by omega), leadP_map (fun q hq => h q (List.mem_cons_of_mem _ hq)) hr]

/-! ### a lot's words -/
def lotWords (l : LotD) : List Str := l.mem.map txI ++ ((if l.cand = l.mem then [] else ("heads" : Str) :: l.cand.map txI) ++ (if l.price = 0 then [] else [("price" : Str), txI l.price]))
theorem LotD.Ok.mem_len {l : LotD} (h : l.Ok 12) : l.mem.length ≤ 12 := by
  have nd : l.mem.Nodup := h.srt.imp fun h => by omega
  have q := nd.length_le_of_subset (l₂ := rangeI 12) (fun z hz => mem_rangeI.mpr (h.rng z hz))
  rwa [rangeI_len] at q
theorem LotD.Ok.cand_rng {n : Int} {l : LotD} (h : l.Ok n) : ∀ z ∈ l.cand, 0 ≤ z ∧ z < n := fun z hz => h.rng z (h.sub z hz)
theorem LotD.Ok.cand_len {l : LotD} (h : l.Ok 12) : l.cand.length ≤ 12 := by
  have nd : l.cand.Nodup := h.csrt.imp fun h => by omega
  have q := nd.length_le_of_subset (l₂ := rangeI 12) (fun z hz => mem_rangeI.mpr (h.cand_rng z hz))
  rwa [rangeI_len] at q
theorem LotD.Ok.up {n m : Int} {l : LotD} (h : l.Ok n) (e : n ≤ m) : l.Ok m := ⟨h.srt, h.len, fun z hz => ⟨(h.rng z hz).1, by have := (h.rng z hz).2; omega⟩, h.csrt, h.cne, h.sub, h.p0, h.p1⟩
theorem map_ne {α β : Type} {f : α → β} {l : List α} (h : l ≠ []) : l.map f ≠ [] := fun e => h (List.map_eq_nil_iff.mp e)
theorem LotD.Ok.mne {n : Int} {l : LotD} (h : l.Ok n) : l.mem ≠ [] := fun e => by have := h.len; rw [e] at this; simp at this
theorem tl_lot {n : Int} {l : LotD} (h : l.Ok n) : tl (lotTxt l) = joinL [32] ((lotWords l).map tl) := by
  unfold lotTxt lotWords
  rw [tl_j, tl_sp]
  have e1 : ∀ ms : List Int, tl (Txt.join " " (ms.map its)) = joinL [32] ((ms.map txI).map tl) := fun ms => by rw [tl_j, tl_sp]
  have e2 : tl (("heads " : Str) ++ Txt.join " " (l.cand.map its)) = joinL [32] (((("heads" : Str) :: l.cand.map txI)).map tl) := by
    rw [tl_append, e1, List.map_cons, joinL_cons (map_ne (map_ne h.cne))]
    rfl
  have e3 : tl (("price " : Str) ++ its l.price) = joinL [32] ([("price" : Str), txI l.price].map tl) := by
    rw [tl_append]
    rfl
  have key : ∀ qs : List (List Str), (∀ q ∈ qs, q ≠ []) → joinL [32] (qs.map fun q => joinL [32] (q.map tl)) = joinL [32] (qs.flatten.map tl) := fun qs hq => by
    have := joinL_flat (S := [32]) (qs := qs.map (List.map tl)) (fun q hm => by
      obtain ⟨z, hz, rfl⟩ := List.mem_map.mp hm
      exact map_ne (hq z hz))
    rw [List.map_map] at this
    rw [List.map_flatten, ← this]
    rfl
  by_cases hc : l.cand = l.mem <;> by_cases hp : l.price = 0
  · rw [if_pos hc, if_pos hp, if_pos hc, if_pos hp]
    simp only [List.append_nil, List.map_cons, List.map_nil, e1]
    rfl
  · rw [if_pos hc, if_neg hp, if_pos hc, if_neg hp]
    have k := key [l.mem.map txI, [("price" : Str), txI l.price]] (by simpa using h.mne)
    simp only [List.map_cons, List.map_nil, List.append_nil, List.nil_append, List.cons_append, e1, e3] at k ⊢
    simpa using k
  · rw [if_neg hc, if_pos hp, if_neg hc, if_pos hp]
    have k := key [l.mem.map txI, ("heads" : Str) :: l.cand.map txI] (by simpa using h.mne)
    simp only [List.map_cons, List.map_nil, List.append_nil, List.nil_append, List.cons_append, e1, e2] at k ⊢
    simpa using k
  · rw [if_neg hc, if_neg hp, if_neg hc, if_neg hp]
    have k := key [l.mem.map txI, ("heads" : Str) :: l.cand.map txI, [("price" : Str), txI l.price]] (by simpa using h.mne)
    simp only [List.map_cons, List.map_nil, List.append_nil, List.nil_append, List.cons_append, e1, e2, e3] at k ⊢
    simpa using k

/-! ### lines -/
theorem num_free {z : Int} {s : Nat} (h : 0 ≤ z) (hs : s < 48 ∨ 57 < s) : s ∉ tl (txI z) := by
  rw [txI_tl h]; exact numL_free hs
theorem lot_words {n : Int} {l : LotD} (h : l.Ok n) (hn : n ≤ 12) : ∀ w ∈ (("lot" : Str) :: lotWords l), (∀ s, (s = 32 ∨ s = 10) → s ∉ tl w) ∧ w.length ≤ 12 := by
  have hz : ∀ z : Int, 0 ≤ z → z < 12000000000 → (∀ s, (s = 32 ∨ s = 10) → s ∉ tl (txI z)) ∧ (txI z).length ≤ 12 := fun z z0 z1 =>
    ⟨fun s hs => num_free z0 (by omega), txI_len z0 (by decide) (by omega)⟩
  have lit : ∀ w : Str, w.cps.toList.all (fun c => decide (c ≠ 32 ∧ c ≠ 10)) = true → w.cps.toList.length ≤ 12 → (∀ s, (s = 32 ∨ s = 10) → s ∉ tl w) ∧ w.length ≤ 12 := fun w h1 h2 => ⟨fun s hs hm => by
    have q := of_decide_eq_true (List.all_eq_true.mp h1 s hm)
    omega, h2⟩
  intro w hw
  rcases List.mem_cons.mp hw with rfl | hw
  · exact lit _ rfl (by decide)
  unfold lotWords at hw
  rcases List.mem_append.mp hw with hw | hw
  · obtain ⟨z, hm, rfl⟩ := List.mem_map.mp hw
    have := h.rng z hm
    exact hz z this.1 (by omega)
  rcases List.mem_append.mp hw with hw | hw
  · split at hw
    · cases hw
    · rcases List.mem_cons.mp hw with rfl | hw
      · exact lit _ rfl (by decide)
      · obtain ⟨z, hm, rfl⟩ := List.mem_map.mp hw
        have := h.cand_rng z hm
        exact hz z this.1 (by omega)
  · split at hw
    · cases hw
    · rcases List.mem_cons.mp hw with rfl | hw
      · exact lit _ rfl (by decide)
      · rw [List.mem_singleton.mp hw]
        exact hz _ h.p0 (by have := h.p1; omega)
theorem lotWords_ne {n : Int} {l : LotD} (h : l.Ok n) : lotWords l ≠ [] := fun e => by
  unfold lotWords at e
  exact map_ne (f := txI) h.mne (List.append_eq_nil_iff.mp e).1
theorem lot_line {n : Int} {l : LotD} (h : l.Ok n) : ("lot " : Str) ++ lotTxt l = Txt.join " " (("lot" : Str) :: lotWords l) := by
  refine ext_tl ?_
  rw [tl_append, tl_lot h, tl_j, tl_sp, List.map_cons, joinL_cons (map_ne (lotWords_ne h))]
  rfl
theorem lot_split {n : Int} {l : LotD} (h : l.Ok n) (hn : n ≤ 12) : Txt.split (("lot " : Str) ++ lotTxt l) " " = ("lot" : Str) :: lotWords l := by
  rw [lot_line h]
  exact split_join (s := 32) (S := []) rfl (by decide +kernel) (by simp) fun w hw => (lot_words h hn w hw).1 32 (.inl rfl)
theorem lotWords_len {l : LotD} (h : l.Ok 12) : (lotWords l).length ≤ 27 := by
  have h1 := h.mem_len
  have h2 := h.cand_len
  unfold lotWords
  rw [List.length_append, List.length_append, List.length_map]
  split <;> split <;> simp only [List.length_nil, List.length_cons, List.length_map] <;> omega
theorem lot_line_len {l : LotD} (h : l.Ok 12) : (("lot " : Str) ++ lotTxt l).length ≤ 400 := by
  rw [lot_line h, len_tl, tl_j, tl_sp]
  have q := joinL_len (S := [32]) 12 (ps := ((("lot" : Str) :: lotWords l).map tl)) fun p hp => by
    obtain ⟨w, hw, rfl⟩ := List.mem_map.mp hp
    have := (lot_words h (Int.le_refl _) w hw).2
    rwa [len_tl] at this
  have := lotWords_len h
  simp only [List.length_map, List.length_cons, List.length_nil] at q
  omega
theorem lotTxt_len {l : LotD} (h : l.Ok 12) : (lotTxt l).length ≤ 400 := by
  have := lot_line_len h
  rw [Str.length_append] at this
  omega
theorem lot_nl {l : LotD} (h : l.Ok 12) : 10 ∉ tl (("lot " : Str) ++ lotTxt l) := by
  rw [lot_line h, tl_j, tl_sp]
  refine not_joinL (by decide) fun p hp => ?_
  obtain ⟨w, hw, rfl⟩ := List.mem_map.mp hp
  exact (lot_words h (Int.le_refl _) w hw).1 10 (.inr rfl)
/-! ### the whole text -/
structure NetOk (n r c : Int) (ls : List LotD) : Prop where
  n0 : 0 ≤ n
  n1 : n ≤ 12
  r0 : 0 ≤ r
  r1 : r < 12
  c0 : 0 ≤ c
  c1 : c ≤ 8
  len : ls.length ≤ 40
  ok : ∀ l ∈ ls, l.Ok 12
theorem mem_lines {n r c : Int} {b : Bool} {ls : List LotD} {w : Str} (h : w ∈ netLines n r c b ls) : w = "places " ++ its n ∨ w = "root " ++ its r ∨ w = "count " ++ its c ∨ w = "mode " ++ modeN b ∨ ∃ l ∈ ls, w = "lot " ++ lotTxt l := by
  unfold netLines at h
  rcases List.mem_append.mp h with h | h
  · simp only [List.mem_cons, List.not_mem_nil, or_false] at h
    rcases h with h | h | h | h
    · exact .inl h
    · exact .inr (.inl h)
    · exact .inr (.inr (.inl h))
    · exact .inr (.inr (.inr (.inl h)))
  · obtain ⟨l, hl, rfl⟩ := List.mem_map.mp h
    exact .inr (.inr (.inr (.inr ⟨l, hl, rfl⟩)))
theorem lines_ok {n r c : Int} {b : Bool} {ls : List LotD} (h : NetOk n r c ls) : ∀ w ∈ netLines n r c b ls, 10 ∉ tl w ∧ w.length ≤ 400 := by
  have num : ∀ (p : Str) (z : Int), 0 ≤ z → z ≤ 12 → 10 ∉ tl p → p.length ≤ 100 → 10 ∉ tl (p ++ its z) ∧ (p ++ its z).length ≤ 400 := fun p z z0 z1 hp hl => by
    have q : (its z).length ≤ 12 := txI_len z0 (by decide) (by omega)
    refine ⟨?_, by rw [Str.length_append]; omega⟩
    rw [tl_append, List.mem_append]
    rintro (h | h)
    · exact hp h
    · exact num_free z0 (by omega) h
  intro w hw
  rcases mem_lines hw with rfl | rfl | rfl | rfl | ⟨l, hl, rfl⟩
  · exact num _ _ h.n0 h.n1 (by decide) (by decide)
  · exact num _ _ h.r0 (by have := h.r1; omega) (by decide) (by decide)
  · exact num _ _ h.c0 (by have := h.c1; omega) (by decide) (by decide)
  · cases b <;> exact ⟨by decide, by decide⟩
  · exact ⟨lot_nl (h.ok l hl), lot_line_len (h.ok l hl)⟩
theorem net_split {n r c : Int} {b : Bool} {ls : List LotD} (h : NetOk n r c ls) : Txt.split (netTxt n r c b ls) "\n" = netLines n r c b ls := by
  unfold netTxt
  exact split_join (s := 10) (S := []) rfl (by decide +kernel) (by simp [netLines]) fun w hw => (lines_ok h w hw).1
theorem lines_len {n r c : Int} {b : Bool} {ls : List LotD} : (netLines n r c b ls).length = 4 + ls.length := by simp [netLines]; omega
theorem net_len {n r c : Int} {b : Bool} {ls : List LotD} (h : NetOk n r c ls) : (netTxt n r c b ls).length ≤ 20000 := by
  unfold netTxt
  rw [len_tl, tl_j, tl_nl]
  have q := joinL_len (S := [10]) 400 (ps := (netLines n r c b ls).map tl) fun p hp => by
    obtain ⟨w, hw, rfl⟩ := List.mem_map.mp hp
    have := (lines_ok h w hw).2
    rwa [len_tl] at this
  have := h.len
  rw [List.length_map, lines_len] at q
  have e : ([10] : List Nat).length = 1 := rfl
  rw [e] at q
  have : (4 + ls.length) * (400 + 1) ≤ 44 * 401 := Nat.mul_le_mul (by omega) (by omega)
  omega
theorem named_split {nm : Str} {q : Int} (h : 32 ∉ tl nm) (h0 : 0 ≤ q) : Txt.split (nm ++ " " ++ its q) " " = [nm, its q] := by
  have e : nm ++ (" " : Str) ++ its q = Txt.join " " [nm, its q] := by
    rw [join_eq]
    rfl
  rw [e]
  refine split_join (s := 32) (S := []) rfl (by decide +kernel) (by simp) fun w hw => ?_
  rcases List.mem_cons.mp hw with rfl | hw
  · exact h
  · rw [List.mem_singleton.mp hw]
    exact num_free h0 (by omega)
theorem lit_places (q : Int) : ("places " : Str) ++ its q = "places" ++ " " ++ its q := ext_tl (by rw [tl_append, tl_append, tl_append]; rfl)
theorem lit_root (q : Int) : ("root " : Str) ++ its q = "root" ++ " " ++ its q := ext_tl (by rw [tl_append, tl_append, tl_append]; rfl)
theorem lit_count (q : Int) : ("count " : Str) ++ its q = "count" ++ " " ++ its q := ext_tl (by rw [tl_append, tl_append, tl_append]; rfl)
/-! ### the law's own way to write a lot -/
def lawTxt (l : LotD) : Str :=
  let t := Txt.join " " (l.mem.map txI)
  let t := if l.cand = l.mem then t else t ++ " heads " ++ Txt.join " " (l.cand.map txI)
  if l.price = 0 then t else t ++ " price " ++ txI l.price
theorem lawTxt_eq {n : Int} {l : LotD} (h : l.Ok n) : lawTxt l = lotTxt l := by
  refine ext_tl ?_
  rw [tl_lot h]
  unfold lawTxt lotWords
  have hm := map_ne (f := tl) (map_ne (f := txI) h.mne)
  have hc := map_ne (f := tl) (map_ne (f := txI) h.cne)
  have eh : tl (" heads " : Str) = [32] ++ (tl ("heads" : Str) ++ [32]) := rfl
  have ep : tl (" price " : Str) = [32] ++ (tl ("price" : Str) ++ [32]) := rfl
  have j2 : ∀ z : Int, joinL [32] [tl ("price" : Str), tl (txI z)] = tl ("price" : Str) ++ ([32] ++ tl (txI z)) := fun _ => rfl
  by_cases h1 : l.cand = l.mem <;> by_cases h2 : l.price = 0
  · simp only [if_pos h1, if_pos h2, List.append_nil, tl_j, tl_sp]
  · simp only [if_pos h1, if_neg h2, List.nil_append, tl_append, tl_j, tl_sp, List.map_append, List.map_cons, List.map_nil]
    rw [joinL_app hm (by simp), j2, ep]
    simp only [List.append_assoc]
  · simp only [if_neg h1, if_pos h2, List.append_nil, tl_append, tl_j, tl_sp, List.map_append, List.map_cons]
    rw [joinL_app hm (by simp), joinL_cons hc, eh]
    simp only [List.append_assoc]
  · simp only [if_neg h1, if_neg h2, tl_append, tl_j, tl_sp, List.map_append, List.map_cons, List.map_nil]
    rw [joinL_app hm (by simp), joinL_app (by simp) (by simp), joinL_cons hc, j2, eh, ep]
    simp only [List.append_assoc]
end K63

set_option Elab.async false
set_option linter.all false
set_option maxRecDepth 100000
set_option maxHeartbeats 2000000
set_option autoImplicit false
namespace K63
open PySem PySem.Spec PyProof.Rows L2 S
local macro_rules | `(tactic| trivial) => `(tactic| first
  | with_reducible refine ws_seq ?_ | with_reducible refine ws_set ?_ | with_reducible refine ws_ret ?_ | with_reducible refine ws_retN ?_ | with_reducible refine ws_drop ?_ | with_reducible refine ws_if ?_ | with_reducible refine ws_next ?_ | with_reducible refine ws_asg ?_
  | with_reducible refine ws_fldS ?_ | ((with_reducible apply fldE); (focus first | exact CS.same | assumption); (focus exact Nat.le_of_ble_eq_true (by rfl)); (focus infer_instance); (focus infer_instance))
  | with_reducible refine wt_test ?_ | with_reducible refine wt_B ?_ | with_reducible refine wt_and ?_ | with_reducible refine wt_or ?_ | with_reducible refine wt_not ?_ | with_reducible refine wt_tru ?_
  | ((with_reducible apply w_var); (focus rfl))
  | with_reducible refine w_int ?_ | with_reducible refine w_str ?_ | with_reducible refine w_bl ?_ | with_reducible refine w_non ?_ | with_reducible refine w_ref ?_ | with_reducible refine w_ty ?_
  | with_reducible refine w_op ?_ | with_reducible refine w_un ?_ | with_reducible refine w_chain ?_ | with_reducible refine w_if ?_ | with_reducible refine w_andV ?_ | with_reducible refine w_orV ?_ | with_reducible refine w_notV ?_
  | with_reducible refine wa_cons ?_ | with_reducible refine wa_nil ?_ | with_reducible refine w_tup ?_ | with_reducible refine w_cb ?_
  | with_reducible refine w_fld ?_ | with_reducible refine w_con ?_ | with_reducible refine w_callN0 ?_ | with_reducible refine w_callN ?_
  | with_reducible refine r2_addI ?_ | with_reducible refine r2_subI ?_ | with_reducible refine r2_ltI ?_ | with_reducible refine r2_leI ?_ | with_reducible refine r2_gtI ?_ | with_reducible refine r2_geI ?_ | with_reducible refine r2_eqI ?_ | with_reducible refine r2_neI ?_ | with_reducible refine r2_eqS ?_ | with_reducible refine r2_neS ?_
  | ((with_reducible apply r2_ix); (focus first | exact .tp | exact .fz | exact .sc | exact .cl CS.same | exact .cl (by assumption) | exact IsL.q (by assumption)); (focus rfl))
  | with_reducible refine w_sl ?_ | with_reducible refine wo_none ?_ | with_reducible refine wo_some ?_
  | ((with_reducible apply rl_len); (focus first | exact .tp | exact .fz | exact .sc | exact .cl CS.same | exact .cl (by assumption) | exact IsL.q (by assumption)))
  | ((with_reducible apply fwE); (focus first | exact .fz | exact .cl CS.same | exact .cl (by assumption)); (focus rfl); (focus infer_instance); (focus infer_instance))
  | with_reducible refine rl_int ?_ | with_reducible refine rl_boolB ?_
  | with_reducible refine r2_isN_yes ?_ | with_reducible refine r2_notN_no ?_ | ((with_reducible apply r2_isN_no); (focus constructor)) | ((with_reducible apply r2_notN_yes); (focus constructor))
  | ((with_reducible apply rl_isY (b := true)); (focus first | exact .int _ | exact .str _ | exact .bl _ | exact .non | exact .tup _ | exact .lst .fz | exact .lst (by assumption)); (focus rfl))
  | ((with_reducible apply rl_isY (b := false)); (focus first | exact .int _ | exact .str _ | exact .bl _ | exact .non | exact .tup _ | exact .lst .fz | exact .lst (by assumption)); (focus rfl))
  | with_reducible refine w_bm ?_ | (refine ⟨tyw_list (ts := _) (by first | exact .cl CS.same | exact .cl (by assumption) | exact .fz), ?_⟩)
  | ((with_reducible apply wg_tup); (focus rfl)) | with_reducible refine wgs_cons ?_ | with_reducible refine wgs_nil ?_
  | with_reducible refine wg_name ?_
  | with_reducible refine wg_subLs ?_ | ((with_reducible apply subw); (focus first | exact CS.same | assumption); (focus rfl))
  | with_reducible refine ite_t ?_ | with_reducible refine ite_f ?_ | with_reducible refine ite_nt ?_ | with_reducible refine ite_nf ?_
  | with_reducible refine ⟨_, rfl, ?_⟩
  | refine ⟨Nat.le_of_ble_eq_true (by rfl), ?_⟩ | with_reducible refine ⟨_, tru_B, ?_⟩ | with_reducible refine ⟨_, tru_I, ?_⟩ | with_reducible refine ⟨_, tru_N, ?_⟩)
local macro_rules | `(tactic| decreasing_trivial) => `(tactic| first
  | with_reducible refine ws_seq ?_ | with_reducible refine ws_set ?_ | with_reducible refine ws_ret ?_ | with_reducible refine ws_retN ?_ | with_reducible refine ws_drop ?_ | with_reducible refine ws_next ?_ | with_reducible refine ws_asg ?_
  | with_reducible refine ws_fldS ?_ | ((with_reducible apply fldE); (focus first | exact CS.same | assumption); (focus exact Nat.le_of_ble_eq_true (by rfl)); (focus infer_instance); (focus infer_instance))
  | with_reducible refine wt_test ?_ | with_reducible refine wt_B ?_ | with_reducible refine wt_and ?_ | with_reducible refine wt_or ?_ | with_reducible refine wt_not ?_ | with_reducible refine wt_tru ?_
  | ((with_reducible apply w_var); (focus rfl))
  | with_reducible refine w_int ?_ | with_reducible refine w_str ?_ | with_reducible refine w_bl ?_ | with_reducible refine w_non ?_ | with_reducible refine w_ref ?_ | with_reducible refine w_ty ?_
  | with_reducible refine w_op ?_ | with_reducible refine w_un ?_ | with_reducible refine w_chain ?_ | with_reducible refine w_if ?_ | with_reducible refine w_andV ?_ | with_reducible refine w_orV ?_ | with_reducible refine w_notV ?_
  | with_reducible refine wa_cons ?_ | with_reducible refine wa_nil ?_ | with_reducible refine w_tup ?_ | with_reducible refine w_cb ?_
  | with_reducible refine w_fld ?_ | with_reducible refine w_con ?_ | with_reducible refine w_callN0 ?_ | with_reducible refine w_callN ?_
  | with_reducible refine r2_addI ?_ | with_reducible refine r2_subI ?_ | with_reducible refine r2_ltI ?_ | with_reducible refine r2_leI ?_ | with_reducible refine r2_gtI ?_ | with_reducible refine r2_geI ?_ | with_reducible refine r2_eqI ?_ | with_reducible refine r2_neI ?_ | with_reducible refine r2_eqS ?_ | with_reducible refine r2_neS ?_
  | ((with_reducible apply r2_ix); (focus first | exact .tp | exact .fz | exact .sc | exact .cl CS.same | exact .cl (by assumption) | exact IsL.q (by assumption)); (focus rfl))
  | with_reducible refine w_sl ?_ | with_reducible refine wo_none ?_ | with_reducible refine wo_some ?_
  | ((with_reducible apply rl_len); (focus first | exact .tp | exact .fz | exact .sc | exact .cl CS.same | exact .cl (by assumption) | exact IsL.q (by assumption)))
  | ((with_reducible apply fwE); (focus first | exact .fz | exact .cl CS.same | exact .cl (by assumption)); (focus rfl); (focus infer_instance); (focus infer_instance))
  | with_reducible refine rl_int ?_ | with_reducible refine rl_boolB ?_
  | with_reducible refine r2_isN_yes ?_ | with_reducible refine r2_notN_no ?_ | ((with_reducible apply r2_isN_no); (focus constructor)) | ((with_reducible apply r2_notN_yes); (focus constructor))
  | ((with_reducible apply rl_isY (b := true)); (focus first | exact .int _ | exact .str _ | exact .bl _ | exact .non | exact .tup _ | exact .lst .fz | exact .lst (by assumption)); (focus rfl))
  | ((with_reducible apply rl_isY (b := false)); (focus first | exact .int _ | exact .str _ | exact .bl _ | exact .non | exact .tup _ | exact .lst .fz | exact .lst (by assumption)); (focus rfl))
  | with_reducible refine w_bm ?_ | (refine ⟨tyw_list (ts := _) (by first | exact .cl CS.same | exact .cl (by assumption) | exact .fz), ?_⟩)
  | ((with_reducible apply wg_tup); (focus rfl)) | with_reducible refine wgs_cons ?_ | with_reducible refine wgs_nil ?_
  | with_reducible refine wg_name ?_
  | with_reducible refine wg_subLs ?_ | ((with_reducible apply subw); (focus first | exact CS.same | assumption); (focus rfl))
  | with_reducible refine ite_t ?_ | with_reducible refine ite_f ?_ | with_reducible refine ite_nt ?_ | with_reducible refine ite_nf ?_
  | with_reducible refine ⟨_, rfl, ?_⟩
  | refine ⟨Nat.le_of_ble_eq_true (by rfl), ?_⟩ | with_reducible refine ⟨_, tru_B, ?_⟩ | with_reducible refine ⟨_, tru_I, ?_⟩ | with_reducible refine ⟨_, tru_N, ?_⟩)
theorem Src.mono {ts : List Ty} {T T' : Nat} (h : Src ts T) (e : T ≤ T') : Src ts T' := by
  obtain ⟨sc, pos, val, left, tot, big, rfl, a, b, c, d, f, g⟩ := h.ex
  exact ⟨sc, pos, val, left, tot, big, rfl, a, b, c, d, f, by omega⟩
theorem sem_law_source {K : PySem.W.Frag} [Tx K] (E : XK) : ∀ ts cs Kk ke, g_law_source K ts cs Kk ke → WS (ZE E ke) (t_law_source K E) { nx := fun _ cs => Kk dN cs, rt := Kk } (startD N_law_source ts) cs := by
  rintro ts cs Kk ke ⟨x, rfl, ns, rfl, hs, hk⟩
  unfold t_law_source
  show WS _ _ _ [some (dKs K (ns.map dI))] _
  refine ws_ret (w_lst ?_)
  repeat trivial
  refine rl_listKF ?_
  repeat trivial
  exact fun a ha => hk a _ ha ⟨ns, 0, 0, 0, 0, false, rfl, by omega, by decide, hs.1, hs.2, by omega, by omega⟩
theorem div_le {v n : Int} (h : 0 < n) : (v / n).natAbs ≤ v.natAbs := by
  by_cases h0 : 0 ≤ v
  · have h1 := Int.ediv_nonneg h0 (Int.le_of_lt h)
    have h2 := Int.ediv_le_self n h0
    omega
  · have h1 : v ≤ v / n := by
      rw [Int.le_ediv_iff_mul_le h]
      have : v * n ≤ v * 1 := Int.mul_le_mul_of_nonpos_left (by omega) (by omega)
      omega
    have h2 : v / n < 0 := Int.ediv_neg_of_neg_of_pos (by omega) h
    omega
theorem lg31 {i : Int} (h0 : 0 ≤ i) (h1 : i < 4294967296) : i.natAbs.log2 < 32 := lg_lt (by omega) (by omega)
theorem sem_law_mixed {K : PySem.W.Frag} [Tx K] (E : XK) : ∀ ts cs Kk ke, g_law_mixed K ts cs Kk ke → WS (ZE E ke) (t_law_mixed K E) { nx := fun _ cs => Kk dN cs, rt := Kk } (startD N_law_mixed ts) cs := by
  rintro ts cs Kk ke ⟨x, y, rfl, c, t, rfl, rfl, hc, ht0, ht1, hk⟩
  unfold t_law_mixed
  show WS _ _ _ [some (dI c), some (dI t), none, none] _
  have l1 : (48271 : Int).natAbs.log2 = 15 := by decide
  have l2 : (69621 : Int).natAbs.log2 = 16 := by decide
  have l3 : (16807 : Int).natAbs.log2 = 14 := by decide
  have l4 : (40692 : Int).natAbs.log2 = 15 := by decide
  have lt := lg31 ht0 (by omega)
  repeat trivial
  refine r2_mulI (i := c) (by unfold CMulB; omega) ?_
  repeat trivial
  refine r2_mulI (i := t) (by unfold CMulB; omega) ?_
  repeat trivial
  refine r2_modI (by decide) ?_
  generalize hf : (c * 48271 + t * 69621 + 11) % 2147483647 = f
  have f0 : 0 ≤ f := by omega
  have f1 : f < 2147483647 := by omega
  have lf := lg31 f0 (by omega)
  repeat trivial
  refine r2_mulI (i := f) (by unfold CMulB; omega) ?_
  repeat trivial
  refine r2_divI ⟨by decide, by decide⟩ ?_
  repeat trivial
  refine r2_mulI (i := t) (by unfold CMulB; omega) ?_
  repeat trivial
  refine r2_modI (by decide) ?_
  generalize hg : (f * 16807 + f / 3 + t * 40692) % 2147483399 = g
  have g0 : 0 ≤ g := by omega
  have g1 : g < 2147483399 := by omega
  have lg := lg31 g0 (by omega)
  repeat trivial
  refine r2_mulI (i := g) (by unfold CMulB; omega) ?_
  repeat trivial
  refine r2_modI (by decide) ?_
  exact hk _ (by omega) (by omega)
theorem sem_law_draw {K : PySem.W.Frag} [Tx K] (E : XK) : ∀ ts cs Kk ke, g_law_draw K ts cs Kk ke → WS (ZE E ke) (t_law_draw K E) { nx := fun _ cs => Kk dN cs, rt := Kk } (startD N_law_draw ts) cs := by
  rintro ts cs Kk ke ⟨x, y, rfl, a, us, T, n, rfl, rfl, hn0, hn1, hcs, hs, hT, hk⟩
  obtain ⟨sc, pos, val, left, tot, big, rfl, h1, h2, h3, h4, h5, h6⟩ := hs.ex
  unfold t_law_draw
  show WS _ _ _ [some (dR a), some (dI n), none] _
  refine ws_seq ?_
  refine ws_nx (fun ds cs' => ds = [some (dR a), some (dI n), none] ∧ ∃ us', cs' = cs.set a (.lst us') ∧ Src us' T) ?_ ?_
  · repeat trivial
    refine ite_d (fun _ => ?_) (fun _ => ?_)
    · repeat trivial
      refine ite_d (fun hp => ?_) (fun hp => ?_)
      · repeat trivial
        have q := hk 0 _ (by omega) hn0 (hs.mono (Nat.le_succ T))
        rw [CS.set_id hcs] at q
        exact q
      · repeat trivial
        rw [List.length_map] at hp
        have hp1 : pos.toNat < sc.length := by omega
        refine r2_ix .fz (atI_map h1 hp1) ?_
        have hz := h3 _ (List.getElem_mem hp1)
        generalize sc[pos.toNat] = z at hz
        repeat trivial
        refine r2_powI (by unfold CPow; omega) ?_
        repeat trivial
        generalize hb : decide (10 ^ Int.toNat 18 ≤ z) = bg
        refine ite_b (fun _ => ?_) (fun _ => ?_)
        · repeat trivial
          refine ⟨rfl, [dL (sc.map dI), dI (pos + 1), dI z, dI 60, dI tot, dB bg], (by simp only [CS.set_set]; rfl), sc, pos + 1, z, 60, tot, bg, rfl, by omega, hz, h3, h4, h5, h6⟩
        · repeat trivial
          refine ⟨rfl, [dL (sc.map dI), dI (pos + 1), dI z, dI 9, dI tot, dB bg], (by simp only [CS.set_set]; rfl), sc, pos + 1, z, 9, tot, bg, rfl, by omega, hz, h3, h4, h5, h6⟩
    · repeat trivial
      exact ⟨rfl, _, (CS.set_id hcs).symm, hs⟩
  · rintro ds cs' ⟨rfl, us', rfl, hs'⟩
    obtain ⟨sc, pos, val, left, tot, big, rfl, h1, h2, h3, h4, h5, h6⟩ := hs'.ex
    have hk2 : ∀ (v : Int) (ts' : List Ty), 0 ≤ v → v < n → Src ts' (T + 1) → Kk (dI v) ((cs.set a (.lst [dL (sc.map dI), dI pos, dI val, dI left, dI tot, dB big])).set a (.lst ts')) := fun v ts' a1 a2 a3 => by
      rw [CS.set_set]
      exact hk v ts' a1 a2 a3
    have hcs0 : (cs.set a (.lst [dL (sc.map dI), dI pos, dI val, dI left, dI tot, dB big])) a = some (.lst [dL (sc.map dI), dI pos, dI val, dI left, dI tot, dB big]) := CS.same
    generalize (cs.set a (.lst [dL (sc.map dI), dI pos, dI val, dI left, dI tot, dB big])) = cs0 at hk2 hcs0
    repeat trivial
    refine ite_nb (fun _ => ?_) (fun _ => ?_)
    · repeat trivial
      refine ⟨_, _, rfl, val, tot + 1, rfl, rfl, by omega, by omega, by omega, fun v v0 v1 => ?_⟩
      repeat trivial
      refine r2_modI hn0 ?_
      simp only [CS.set_set]
      exact hk2 _ _ (Int.emod_nonneg _ (by omega)) (Int.emod_lt_of_pos _ hn0) ⟨sc, pos, val, left - 1, tot + 1, big, rfl, h1, h2, h3, h4, by omega, by omega⟩
    · repeat trivial
      refine r2_modI hn0 ?_
      repeat trivial
      refine r2_divI ⟨hn0, Nat.lt_trans (lg_lt (i := n) (k := 40) (by omega) (by decide)) (by decide)⟩ ?_
      repeat trivial
      have hd : (val / n).natAbs.log2 ≤ 1048576 := Nat.le_trans (lg_mono (div_le hn0)) h2
      refine ite_d (fun _ => ?_) (fun _ => ?_)
      · repeat trivial
        simp only [CS.set_set]
        exact hk2 _ _ (Int.emod_nonneg _ (by omega)) (Int.emod_lt_of_pos _ hn0) ⟨sc, pos, val / n, 0, tot + 1, big, rfl, h1, hd, h3, h4, by omega, by omega⟩
      · repeat trivial
        simp only [CS.set_set]
        exact hk2 _ _ (Int.emod_nonneg _ (by omega)) (Int.emod_lt_of_pos _ hn0) ⟨sc, pos, val / n, left - 1, tot + 1, big, rfl, h1, hd, h3, h4, by omega, by omega⟩
end K63

set_option Elab.async false
set_option linter.all false
set_option maxRecDepth 100000
set_option maxHeartbeats 2000000
set_option autoImplicit false
namespace K63
open PySem PySem.Spec PyProof.Rows L2 S
local macro_rules | `(tactic| trivial) => `(tactic| first
  | with_reducible refine ws_seq ?_ | with_reducible refine ws_set ?_ | with_reducible refine ws_ret ?_ | with_reducible refine ws_retN ?_ | with_reducible refine ws_drop ?_ | with_reducible refine ws_if ?_ | with_reducible refine ws_next ?_ | with_reducible refine ws_asg ?_
  | with_reducible refine ws_fldS ?_ | ((with_reducible apply fldE); (focus first | exact CS.same | assumption); (focus exact Nat.le_of_ble_eq_true (by rfl)); (focus infer_instance); (focus infer_instance))
  | with_reducible refine wt_test ?_ | with_reducible refine wt_B ?_ | with_reducible refine wt_and ?_ | with_reducible refine wt_or ?_ | with_reducible refine wt_not ?_ | with_reducible refine wt_tru ?_
  | ((with_reducible apply w_var); (focus rfl))
  | with_reducible refine w_int ?_ | with_reducible refine w_str ?_ | with_reducible refine w_bl ?_ | with_reducible refine w_non ?_ | with_reducible refine w_ref ?_ | with_reducible refine w_ty ?_
  | with_reducible refine w_op ?_ | with_reducible refine w_un ?_ | with_reducible refine w_chain ?_ | with_reducible refine w_if ?_ | with_reducible refine w_andV ?_ | with_reducible refine w_orV ?_ | with_reducible refine w_notV ?_
  | with_reducible refine wa_cons ?_ | with_reducible refine wa_nil ?_ | with_reducible refine w_tup ?_ | with_reducible refine w_cb ?_
  | with_reducible refine w_fld ?_ | with_reducible refine w_con ?_ | with_reducible refine w_callN0 ?_ | with_reducible refine w_callN ?_
  | with_reducible refine r2_addI ?_ | with_reducible refine r2_subI ?_ | with_reducible refine r2_ltI ?_ | with_reducible refine r2_leI ?_ | with_reducible refine r2_gtI ?_ | with_reducible refine r2_geI ?_ | with_reducible refine r2_eqI ?_ | with_reducible refine r2_neI ?_ | with_reducible refine r2_eqS ?_ | with_reducible refine r2_neS ?_
  | ((with_reducible apply r2_ix); (focus first | exact .tp | exact .fz | exact .sc | exact .cl CS.same | exact .cl (by assumption) | exact IsL.q (by assumption)); (focus rfl))
  | with_reducible refine w_sl ?_ | with_reducible refine wo_none ?_ | with_reducible refine wo_some ?_
  | ((with_reducible apply rl_len); (focus first | exact .tp | exact .fz | exact .sc | exact .cl CS.same | exact .cl (by assumption) | exact IsL.q (by assumption)))
  | ((with_reducible apply fwE); (focus first | exact .fz | exact .cl CS.same | exact .cl (by assumption)); (focus rfl); (focus infer_instance); (focus infer_instance))
  | with_reducible refine rl_int ?_ | with_reducible refine rl_boolB ?_
  | with_reducible refine r2_isN_yes ?_ | with_reducible refine r2_notN_no ?_ | ((with_reducible apply r2_isN_no); (focus constructor)) | ((with_reducible apply r2_notN_yes); (focus constructor))
  | ((with_reducible apply rl_isY (b := true)); (focus first | exact .int _ | exact .str _ | exact .bl _ | exact .non | exact .tup _ | exact .lst .fz | exact .lst (by assumption)); (focus rfl))
  | ((with_reducible apply rl_isY (b := false)); (focus first | exact .int _ | exact .str _ | exact .bl _ | exact .non | exact .tup _ | exact .lst .fz | exact .lst (by assumption)); (focus rfl))
  | with_reducible refine w_bm ?_ | (refine ⟨tyw_list (ts := _) (by first | exact .cl CS.same | exact .cl (by assumption) | exact .fz), ?_⟩)
  | ((with_reducible apply wg_tup); (focus rfl)) | with_reducible refine wgs_cons ?_ | with_reducible refine wgs_nil ?_
  | with_reducible refine wg_name ?_
  | with_reducible refine wg_subLs ?_ | ((with_reducible apply subw); (focus first | exact CS.same | assumption); (focus rfl))
  | with_reducible refine ite_t ?_ | with_reducible refine ite_f ?_ | with_reducible refine ite_nt ?_ | with_reducible refine ite_nf ?_
  | with_reducible refine ⟨_, rfl, ?_⟩
  | refine ⟨Nat.le_of_ble_eq_true (by rfl), ?_⟩ | with_reducible refine ⟨_, tru_B, ?_⟩ | with_reducible refine ⟨_, tru_I, ?_⟩ | with_reducible refine ⟨_, tru_N, ?_⟩)
local macro_rules | `(tactic| decreasing_trivial) => `(tactic| first
  | with_reducible refine ws_seq ?_ | with_reducible refine ws_set ?_ | with_reducible refine ws_ret ?_ | with_reducible refine ws_retN ?_ | with_reducible refine ws_drop ?_ | with_reducible refine ws_next ?_ | with_reducible refine ws_asg ?_
  | with_reducible refine ws_fldS ?_ | ((with_reducible apply fldE); (focus first | exact CS.same | assumption); (focus exact Nat.le_of_ble_eq_true (by rfl)); (focus infer_instance); (focus infer_instance))
  | with_reducible refine wt_test ?_ | with_reducible refine wt_B ?_ | with_reducible refine wt_and ?_ | with_reducible refine wt_or ?_ | with_reducible refine wt_not ?_ | with_reducible refine wt_tru ?_
  | ((with_reducible apply w_var); (focus rfl))
  | with_reducible refine w_int ?_ | with_reducible refine w_str ?_ | with_reducible refine w_bl ?_ | with_reducible refine w_non ?_ | with_reducible refine w_ref ?_ | with_reducible refine w_ty ?_
  | with_reducible refine w_op ?_ | with_reducible refine w_un ?_ | with_reducible refine w_chain ?_ | with_reducible refine w_if ?_ | with_reducible refine w_andV ?_ | with_reducible refine w_orV ?_ | with_reducible refine w_notV ?_
  | with_reducible refine wa_cons ?_ | with_reducible refine wa_nil ?_ | with_reducible refine w_tup ?_ | with_reducible refine w_cb ?_
  | with_reducible refine w_fld ?_ | with_reducible refine w_con ?_ | with_reducible refine w_callN0 ?_ | with_reducible refine w_callN ?_
  | with_reducible refine r2_addI ?_ | with_reducible refine r2_subI ?_ | with_reducible refine r2_ltI ?_ | with_reducible refine r2_leI ?_ | with_reducible refine r2_gtI ?_ | with_reducible refine r2_geI ?_ | with_reducible refine r2_eqI ?_ | with_reducible refine r2_neI ?_ | with_reducible refine r2_eqS ?_ | with_reducible refine r2_neS ?_
  | ((with_reducible apply r2_ix); (focus first | exact .tp | exact .fz | exact .sc | exact .cl CS.same | exact .cl (by assumption) | exact IsL.q (by assumption)); (focus rfl))
  | with_reducible refine w_sl ?_ | with_reducible refine wo_none ?_ | with_reducible refine wo_some ?_
  | ((with_reducible apply rl_len); (focus first | exact .tp | exact .fz | exact .sc | exact .cl CS.same | exact .cl (by assumption) | exact IsL.q (by assumption)))
  | ((with_reducible apply fwE); (focus first | exact .fz | exact .cl CS.same | exact .cl (by assumption)); (focus rfl); (focus infer_instance); (focus infer_instance))
  | with_reducible refine rl_int ?_ | with_reducible refine rl_boolB ?_
  | with_reducible refine r2_isN_yes ?_ | with_reducible refine r2_notN_no ?_ | ((with_reducible apply r2_isN_no); (focus constructor)) | ((with_reducible apply r2_notN_yes); (focus constructor))
  | ((with_reducible apply rl_isY (b := true)); (focus first | exact .int _ | exact .str _ | exact .bl _ | exact .non | exact .tup _ | exact .lst .fz | exact .lst (by assumption)); (focus rfl))
  | ((with_reducible apply rl_isY (b := false)); (focus first | exact .int _ | exact .str _ | exact .bl _ | exact .non | exact .tup _ | exact .lst .fz | exact .lst (by assumption)); (focus rfl))
  | with_reducible refine w_bm ?_ | (refine ⟨tyw_list (ts := _) (by first | exact .cl CS.same | exact .cl (by assumption) | exact .fz), ?_⟩)
  | ((with_reducible apply wg_tup); (focus rfl)) | with_reducible refine wgs_cons ?_ | with_reducible refine wgs_nil ?_
  | with_reducible refine wg_name ?_
  | with_reducible refine wg_subLs ?_ | ((with_reducible apply subw); (focus first | exact CS.same | assumption); (focus rfl))
  | with_reducible refine ite_t ?_ | with_reducible refine ite_f ?_ | with_reducible refine ite_nt ?_ | with_reducible refine ite_nf ?_
  | with_reducible refine ⟨_, rfl, ?_⟩
  | refine ⟨Nat.le_of_ble_eq_true (by rfl), ?_⟩ | with_reducible refine ⟨_, tru_B, ?_⟩ | with_reducible refine ⟨_, tru_I, ?_⟩ | with_reducible refine ⟨_, tru_N, ?_⟩)
theorem map_erase {α β : Type} (f : α → β) (l : List α) (i : Nat) : (l.map f).eraseIdx i = (l.eraseIdx i).map f := by simp [List.eraseIdx_eq_take_drop_succ]
theorem sem_law_number {K : PySem.W.Frag} [Tx K] (E : XK) : ∀ ts cs Kk ke, g_law_number K ts cs Kk ke → WS (ZE E ke) (t_law_number K E) { nx := fun _ cs => Kk dN cs, rt := Kk } (startD N_law_number ts) cs := by
  rintro ts cs Kk ke ⟨x, rfl, i, rfl, hk⟩
  unfold t_law_number
  show WS _ _ _ [some (dI i)] _
  repeat trivial
theorem sem_law_same {K : PySem.W.Frag} [Tx K] (E : XK) (n : Nat) : ∀ ts cs Kk ke, g_law_same K (n + 1) ts cs Kk ke → WS (ZE E ke) (t_law_same K E n) { nx := fun _ cs => Kk dN cs, rt := Kk } (startD N_law_same ts) cs := by
  rintro ts cs Kk ke ⟨x, y, rfl, hs, hk⟩
  unfold t_law_same
  show WS _ _ _ [some x, some y, none] _
  rcases hs with ⟨i, rfl, rfl⟩ | ⟨z, rfl, rfl⟩ | ⟨b, rfl, rfl⟩ | ⟨rfl, rfl⟩ | ⟨us, vs, rfl, rfl, hl, hl2, hh⟩
  · repeat trivial
    refine ⟨_, rfl, i, rfl, ?_⟩
    repeat trivial
    rw [decT rfl]
    exact hk
  · repeat trivial
    rw [decT rfl]
    exact hk
  · repeat trivial
    refine r2_eqB ?_
    rw [decT rfl]
    exact hk
  · repeat trivial
  · repeat trivial
    rw [decide_eq_true (by omega : ((us.length : Int) = (vs.length : Int)))]
    repeat trivial
    refine ws_forR1 ?_
    repeat trivial
    refine ⟨by omega, by omega, fun i ds cs' => (∃ o, ds = [some (dT us), some (dT vs), o]) ∧ cs' = cs, ⟨⟨_, rfl⟩, rfl⟩, ?_, ?_⟩
    · rintro i ds cs' hi ⟨⟨o, rfl⟩, rfl⟩
      have hi2 : i < vs.length := by omega
      repeat trivial
      refine r2_ix .tp (atI_z (List.getElem?_eq_getElem (hl ▸ hi2))) ?_
      repeat trivial
      refine r2_ix .tp (atI_z (List.getElem?_eq_getElem hi2)) ?_
      repeat trivial
      refine ⟨_, _, rfl, hh i _ _ (List.getElem?_eq_getElem _) (List.getElem?_eq_getElem _), ?_⟩
      repeat trivial
      exact ⟨⟨_, rfl⟩, rfl⟩
    · rintro ds cs' ⟨⟨o, rfl⟩, rfl⟩
      repeat trivial
theorem sem_law_pick {K : PySem.W.Frag} [Tx K] (E : XK) : ∀ ts cs Kk ke, g_law_pick K ts cs Kk ke → WS (ZE E ke) (t_law_pick K E) { nx := fun _ cs => Kk dN cs, rt := Kk } (startD N_law_pick ts) cs := by
  rintro ts cs Kk ke ⟨x, y, rfl, a, us, T, vs, rfl, hcs, hs, hT, hy1, hy, hne, hl, hk⟩
  unfold t_law_pick
  show WS _ _ _ [some (dR a), some y] _
  repeat trivial
  have hv := List.length_pos_iff.mpr hne
  refine ⟨_, _, rfl, a, us, T, _, rfl, rfl, by omega, by omega, hcs, hs, hT, fun v ts' v0 v1 hs' => ?_⟩
  have hv2 : v.toNat < vs.length := by omega
  have e : ((v.toNat : Nat) : Int) = v := by omega
  rw [← e]
  exact r2_ix (hy1 ts').q (atI_natT (List.getElem?_eq_getElem hv2)) (hk _ (List.getElem_mem hv2) ts' hs')
theorem sem_law_cost {K : PySem.W.Frag} [Tx K] (E : XK) : ∀ ts cs Kk ke, g_law_cost K ts cs Kk ke → WS (ZE E ke) (t_law_cost K E) { nx := fun _ cs => Kk dN cs, rt := Kk } (startD N_law_cost ts) cs := by
  rintro ts cs Kk ke ⟨x, rfl, a, us, T, rfl, hcs, hs, hT, hk⟩
  unfold t_law_cost
  show WS _ _ _ [some (dR a), none] _
  repeat trivial
  refine ⟨_, _, rfl, a, us, T, _, rfl, rfl, by omega, by omega, hcs, hs, by omega, fun v us' v0 v1 hs' => ?_⟩
  have hk2 : ∀ (v : Int) ts', 0 ≤ v → v ≤ 1000000000 → Src ts' (T + 2) → Kk (dI v) ((cs.set a (.lst us')).set a (.lst ts')) := fun v ts' h1 h2 h3 => by
    rw [CS.set_set]
    exact hk v ts' h1 h2 h3
  repeat trivial
  refine ite_d (fun _ => ?_) (fun _ => ?_)
  · repeat trivial
    exact hk 0 us' (by omega) (by omega) (hs'.mono (by omega))
  repeat trivial
  refine ite_d (fun _ => ?_) (fun _ => ?_)
  · repeat trivial
    refine r2_powI (by unfold CPow; omega) ?_
    repeat trivial
    refine ⟨_, _, rfl, a, us', T + 1, _, rfl, rfl, by omega, by omega, CS.same, hs', by omega, fun v us'' v0 v1 hs'' => ?_⟩
    repeat trivial
    have e : (10 : Int) ^ Int.toNat 9 = 1000000000 := by decide
    rw [e]
    exact hk2 _ _ (by omega) (by omega) hs''
  repeat trivial
  refine ite_d (fun _ => ?_) (fun _ => ?_)
  · repeat trivial
    refine ⟨_, _, rfl, a, us', T + 1, _, rfl, rfl, by omega, by omega, CS.same, hs', by omega, fun v us'' v0 v1 hs'' => ?_⟩
    repeat trivial
    exact hk2 _ _ (by omega) (by omega) hs''
  repeat trivial
  refine r2_powI (by unfold CPow; omega) ?_
  repeat trivial
  have e : (10 : Int) ^ Int.toNat 9 = 1000000000 := by decide
  rw [e]
  refine ⟨_, _, rfl, a, us', T + 1, _, rfl, rfl, by omega, by omega, CS.same, hs', by omega, fun v us'' v0 v1 hs'' => ?_⟩
  exact hk2 _ _ (by omega) (by omega) hs''
theorem sem_law_shuffled {K : PySem.W.Frag} [Tx K] (E : XK) : ∀ ts cs Kk ke, g_law_shuffled K ts cs Kk ke → WS (ZE E ke) (t_law_shuffled K E) { nx := fun _ cs => Kk dN cs, rt := Kk } (startD N_law_shuffled ts) cs := by
  rintro ts cs Kk ke ⟨x, y, rfl, a, us, T, ns, rfl, hcs, hs, hT, hy1, hy, hl, hk⟩
  unfold t_law_shuffled
  show WS _ _ _ [some (dR a), some y, none, none, none] _
  repeat trivial
  refine rl_list hy.q fun p hp => ?_
  repeat trivial
  refine w_lst ?_
  repeat trivial
  intro q hq
  have hpq : q ≠ p := fun e => by subst e; rw [CS.same] at hq; cases hq
  have hqc : cs q = none := by rw [CS.ne hpq] at hq; exact hq
  have hap : a ≠ p := CS.ne_of hcs hp
  have haq : a ≠ q := CS.ne_of hcs hqc
  repeat trivial
  refine ws_forR1 ?_
  repeat trivial
  refine rl_len (ts := ns.map dI) (isL_new (isL_new hy hp) hq).q ?_
  repeat trivial
  rw [List.length_map]
  refine ⟨by omega, by omega, fun i ds cs' => (∃ o, ds = [some (dR a), some y, some (dR p), some (dR q), o]) ∧ ∃ ts' L O, cs' a = some (.lst ts') ∧ cs' p = some (.lst (L.map dI)) ∧ cs' q = some (.lst (O.map dI)) ∧ (∀ b, b ≠ a → b ≠ p → b ≠ q → cs' b = cs b) ∧ L.length + i = ns.length ∧ (O ++ L).Perm ns ∧ Src ts' (T + i), ⟨⟨_, rfl⟩, us, ns, [], ?_⟩, ?_, ?_⟩
  · exact ⟨by rw [CS.ne haq, CS.ne hap]; exact hcs, by rw [CS.ne hpq.symm]; exact CS.same, CS.same, fun b _ h2 h3 => by rw [CS.ne h3, CS.ne h2], by omega, List.Perm.refl _, hs⟩
  · rintro i ds cs' hi ⟨⟨o, rfl⟩, ts', L, O, ha, hL, hO, hb, hLi, hperm, hs'⟩
    repeat trivial
    rw [List.length_map]
    refine ⟨_, _, rfl, a, ts', T + i, (L.length : Int), rfl, rfl, by omega, by omega, ha, hs', by omega, fun v ts2 v0 v1 hs2 => ?_⟩
    repeat trivial
    have hv : v.toNat < L.length := by omega
    have ev : ((v.toNat : Nat) : Int) = v := by omega
    rw [← ev]
    refine rm_popAt (ts := L.map dI) (by rw [CS.ne hap.symm]; exact hL) (y := dI L[v.toNat]) (by simp [hv]) (by omega) ?_
    repeat trivial
    refine rm_append (ts := O.map dI) (by rw [CS.ne hpq, CS.ne haq.symm]; exact hO) (by
      have := hperm.length_eq
      rw [List.length_append] at this
      rw [List.length_map]
      exact Nat.lt_of_lt_of_le (show O.length < 2000 by omega) (by decide)) ?_
    refine ⟨⟨_, rfl⟩, ts2, L.eraseIdx v.toNat, O ++ [L[v.toNat]], ?_, ?_, ?_, ?_, ?_, ?_, ?_⟩
    · rw [CS.ne haq, CS.ne hap, CS.same]
    · rw [CS.ne hpq.symm, CS.same, map_erase]
    · rw [CS.same]; simp
    · intro b h1 h2 h3
      rw [CS.ne h3, CS.ne h2, CS.ne h1]
      exact hb b h1 h2 h3
    · rw [List.length_eraseIdx_of_lt hv]; omega
    · exact (perm_erase hv).trans hperm
    · exact hs2.mono (by omega)
  · rintro ds cs' ⟨⟨o, rfl⟩, ts', L, O, ha, hL, hO, hb, hLi, hperm, hs'⟩
    have hL0 : L = [] := List.length_eq_zero_iff.mp (by omega)
    subst hL0
    rw [List.append_nil] at hperm
    refine ws_ret (w_frz ?_)
    repeat trivial
    refine ⟨_, _, (frz_lst hO).trans (frz_less (cs' := cs.set a (.lst ts')) ?_), hk O ts' hperm (by
      rw [show T + ns.length = T + (ns.length : Int).toNat by omega]; exact hs')⟩
    intro b c hbc
    by_cases e1 : b = a
    · subst e1
      rw [CS.same] at hbc
      rw [CS.del_ne haq]
      rw [ha]; exact hbc
    · rw [CS.ne e1] at hbc
      have e2 : b ≠ p := CS.ne_of hbc hp
      have e3 : b ≠ q := CS.ne_of hbc hqc
      rw [CS.del_ne e3, hb b e1 e2 e3]
      exact hbc
end K63

set_option Elab.async false
set_option linter.all false
set_option maxRecDepth 100000
set_option maxHeartbeats 2000000
set_option autoImplicit false
namespace K63
open PySem PySem.Spec PyProof.Rows L2 S
local macro_rules | `(tactic| trivial) => `(tactic| first
  | with_reducible refine ws_seq ?_ | with_reducible refine ws_set ?_ | with_reducible refine ws_ret ?_ | with_reducible refine ws_retN ?_ | with_reducible refine ws_drop ?_ | with_reducible refine ws_if ?_ | with_reducible refine ws_next ?_ | with_reducible refine ws_asg ?_
  | with_reducible refine ws_fldS ?_ | ((with_reducible apply fldE); (focus first | exact CS.same | assumption); (focus exact Nat.le_of_ble_eq_true (by rfl)); (focus infer_instance); (focus infer_instance))
  | with_reducible refine wt_test ?_ | with_reducible refine wt_B ?_ | with_reducible refine wt_and ?_ | with_reducible refine wt_or ?_ | with_reducible refine wt_not ?_ | with_reducible refine wt_tru ?_
  | ((with_reducible apply w_var); (focus rfl))
  | with_reducible refine w_int ?_ | with_reducible refine w_str ?_ | with_reducible refine w_bl ?_ | with_reducible refine w_non ?_ | with_reducible refine w_ref ?_ | with_reducible refine w_ty ?_
  | with_reducible refine w_op ?_ | with_reducible refine w_un ?_ | with_reducible refine w_chain ?_ | with_reducible refine w_if ?_ | with_reducible refine w_andV ?_ | with_reducible refine w_orV ?_ | with_reducible refine w_notV ?_
  | with_reducible refine wa_cons ?_ | with_reducible refine wa_nil ?_ | with_reducible refine w_tup ?_ | with_reducible refine w_cb ?_
  | with_reducible refine w_fld ?_ | with_reducible refine w_con ?_ | with_reducible refine w_callN0 ?_ | with_reducible refine w_callN ?_
  | with_reducible refine r2_addI ?_ | with_reducible refine r2_subI ?_ | with_reducible refine r2_ltI ?_ | with_reducible refine r2_leI ?_ | with_reducible refine r2_gtI ?_ | with_reducible refine r2_geI ?_ | with_reducible refine r2_eqI ?_ | with_reducible refine r2_neI ?_ | with_reducible refine r2_eqS ?_ | with_reducible refine r2_neS ?_
  | ((with_reducible apply r2_ix); (focus first | exact .tp | exact .fz | exact .sc | exact .cl CS.same | exact .cl (by assumption) | exact IsL.q (by assumption)); (focus rfl))
  | with_reducible refine w_sl ?_ | with_reducible refine wo_none ?_ | with_reducible refine wo_some ?_
  | ((with_reducible apply rl_len); (focus first | exact .tp | exact .fz | exact .sc | exact .cl CS.same | exact .cl (by assumption) | exact IsL.q (by assumption)))
  | ((with_reducible apply fwE); (focus first | exact .fz | exact .cl CS.same | exact .cl (by assumption)); (focus rfl); (focus infer_instance); (focus infer_instance))
  | with_reducible refine rl_int ?_ | with_reducible refine rl_boolB ?_
  | with_reducible refine r2_isN_yes ?_ | with_reducible refine r2_notN_no ?_ | ((with_reducible apply r2_isN_no); (focus constructor)) | ((with_reducible apply r2_notN_yes); (focus constructor))
  | ((with_reducible apply rl_isY (b := true)); (focus first | exact .int _ | exact .str _ | exact .bl _ | exact .non | exact .tup _ | exact .lst .fz | exact .lst (by assumption)); (focus rfl))
  | ((with_reducible apply rl_isY (b := false)); (focus first | exact .int _ | exact .str _ | exact .bl _ | exact .non | exact .tup _ | exact .lst .fz | exact .lst (by assumption)); (focus rfl))
  | with_reducible refine w_bm ?_ | (refine ⟨tyw_list (ts := _) (by first | exact .cl CS.same | exact .cl (by assumption) | exact .fz), ?_⟩)
  | ((with_reducible apply wg_tup); (focus rfl)) | with_reducible refine wgs_cons ?_ | with_reducible refine wgs_nil ?_
  | with_reducible refine wg_name ?_
  | with_reducible refine wg_subLs ?_ | ((with_reducible apply subw); (focus first | exact CS.same | assumption); (focus rfl))
  | with_reducible refine ite_t ?_ | with_reducible refine ite_f ?_ | with_reducible refine ite_nt ?_ | with_reducible refine ite_nf ?_
  | with_reducible refine ⟨_, rfl, ?_⟩
  | refine ⟨Nat.le_of_ble_eq_true (by rfl), ?_⟩ | with_reducible refine ⟨_, tru_B, ?_⟩ | with_reducible refine ⟨_, tru_I, ?_⟩ | with_reducible refine ⟨_, tru_N, ?_⟩)
local macro_rules | `(tactic| decreasing_trivial) => `(tactic| first
  | with_reducible refine ws_seq ?_ | with_reducible refine ws_set ?_ | with_reducible refine ws_ret ?_ | with_reducible refine ws_retN ?_ | with_reducible refine ws_drop ?_ | with_reducible refine ws_next ?_ | with_reducible refine ws_asg ?_
  | with_reducible refine ws_fldS ?_ | ((with_reducible apply fldE); (focus first | exact CS.same | assumption); (focus exact Nat.le_of_ble_eq_true (by rfl)); (focus infer_instance); (focus infer_instance))
  | with_reducible refine wt_test ?_ | with_reducible refine wt_B ?_ | with_reducible refine wt_and ?_ | with_reducible refine wt_or ?_ | with_reducible refine wt_not ?_ | with_reducible refine wt_tru ?_
  | ((with_reducible apply w_var); (focus rfl))
  | with_reducible refine w_int ?_ | with_reducible refine w_str ?_ | with_reducible refine w_bl ?_ | with_reducible refine w_non ?_ | with_reducible refine w_ref ?_ | with_reducible refine w_ty ?_
  | with_reducible refine w_op ?_ | with_reducible refine w_un ?_ | with_reducible refine w_chain ?_ | with_reducible refine w_if ?_ | with_reducible refine w_andV ?_ | with_reducible refine w_orV ?_ | with_reducible refine w_notV ?_
  | with_reducible refine wa_cons ?_ | with_reducible refine wa_nil ?_ | with_reducible refine w_tup ?_ | with_reducible refine w_cb ?_
  | with_reducible refine w_fld ?_ | with_reducible refine w_con ?_ | with_reducible refine w_callN0 ?_ | with_reducible refine w_callN ?_
  | with_reducible refine r2_addI ?_ | with_reducible refine r2_subI ?_ | with_reducible refine r2_ltI ?_ | with_reducible refine r2_leI ?_ | with_reducible refine r2_gtI ?_ | with_reducible refine r2_geI ?_ | with_reducible refine r2_eqI ?_ | with_reducible refine r2_neI ?_ | with_reducible refine r2_eqS ?_ | with_reducible refine r2_neS ?_
  | ((with_reducible apply r2_ix); (focus first | exact .tp | exact .fz | exact .sc | exact .cl CS.same | exact .cl (by assumption) | exact IsL.q (by assumption)); (focus rfl))
  | with_reducible refine w_sl ?_ | with_reducible refine wo_none ?_ | with_reducible refine wo_some ?_
  | ((with_reducible apply rl_len); (focus first | exact .tp | exact .fz | exact .sc | exact .cl CS.same | exact .cl (by assumption) | exact IsL.q (by assumption)))
  | ((with_reducible apply fwE); (focus first | exact .fz | exact .cl CS.same | exact .cl (by assumption)); (focus rfl); (focus infer_instance); (focus infer_instance))
  | with_reducible refine rl_int ?_ | with_reducible refine rl_boolB ?_
  | with_reducible refine r2_isN_yes ?_ | with_reducible refine r2_notN_no ?_ | ((with_reducible apply r2_isN_no); (focus constructor)) | ((with_reducible apply r2_notN_yes); (focus constructor))
  | ((with_reducible apply rl_isY (b := true)); (focus first | exact .int _ | exact .str _ | exact .bl _ | exact .non | exact .tup _ | exact .lst .fz | exact .lst (by assumption)); (focus rfl))
  | ((with_reducible apply rl_isY (b := false)); (focus first | exact .int _ | exact .str _ | exact .bl _ | exact .non | exact .tup _ | exact .lst .fz | exact .lst (by assumption)); (focus rfl))
  | with_reducible refine w_bm ?_ | (refine ⟨tyw_list (ts := _) (by first | exact .cl CS.same | exact .cl (by assumption) | exact .fz), ?_⟩)
  | ((with_reducible apply wg_tup); (focus rfl)) | with_reducible refine wgs_cons ?_ | with_reducible refine wgs_nil ?_
  | with_reducible refine wg_name ?_
  | with_reducible refine wg_subLs ?_ | ((with_reducible apply subw); (focus first | exact CS.same | assumption); (focus rfl))
  | with_reducible refine ite_t ?_ | with_reducible refine ite_f ?_ | with_reducible refine ite_nt ?_ | with_reducible refine ite_nf ?_
  | with_reducible refine ⟨_, rfl, ?_⟩
  | refine ⟨Nat.le_of_ble_eq_true (by rfl), ?_⟩ | with_reducible refine ⟨_, tru_B, ?_⟩ | with_reducible refine ⟨_, tru_I, ?_⟩ | with_reducible refine ⟨_, tru_N, ?_⟩)
theorem sem_law_group {K : PySem.W.Frag} [Tx K] (E : XK) : ∀ ts cs Kk ke, g_law_group K ts cs Kk ke → WS (ZE E ke) (t_law_group K E) { nx := fun _ cs => Kk dN cs, rt := Kk } (startD N_law_group ts) cs := by
  rintro ts cs Kk ke ⟨x, y, rfl, a, us, T, n, rfl, rfl, hcs, hs, hT, hn0, hn1, hk⟩
  unfold t_law_group
  show WS _ _ _ [some (dR a), some (dI n), none] _
  repeat trivial
  refine w_listRF ?_
  repeat trivial
  have en : ((n.toNat : Nat) : Int) = n := by omega
  rw [← en]
  refine ⟨_, rfl, by omega, ?_⟩
  repeat trivial
  refine ⟨_, _, rfl, a, us, T, rangeI n.toNat, rfl, hcs, hs, by rw [rangeI_len]; omega, fun _ => .fz, .fz, by rw [rangeI_len]; omega, fun ns us' hp hs' => ?_⟩
  rw [rangeI_len] at hs'
  repeat trivial
  refine ⟨_, _, rfl, a, us', T + n.toNat, _, rfl, rfl, by omega, by omega, CS.same, hs', by omega, fun v us'' v0 v1 hs'' => ?_⟩
  repeat trivial
  refine rs_takeF .fz (by omega) ?_
  rw [← List.map_take, CS.set_set]
  refine hk _ _ ?_ ?_ ?_ ?_ (hs''.mono (by omega))
  · exact (hp.nodup_iff.mpr (rangeI_nodup _)).sublist (List.take_sublist _ _)
  · rw [List.length_take, hp.length_eq, rangeI_len]; omega
  · rw [List.length_take, hp.length_eq, rangeI_len]; omega
  · intro z hz
    have h := mem_rangeI.mp (hp.mem_iff.mp (List.mem_of_mem_take hz))
    omega
theorem sem_law_menu {K : PySem.W.Frag} [Tx K] (E : XK) : ∀ ts cs Kk ke, g_law_menu K ts cs Kk ke → WS (ZE E ke) (t_law_menu K E) { nx := fun _ cs => Kk dN cs, rt := Kk } (startD N_law_menu ts) cs := by
  rintro ts cs Kk ke ⟨x, y, z, rfl, a, us, T, g, q, rfl, rfl, rfl, hcs, hs, hT, hnd, hl0, hl1, hk⟩
  unfold t_law_menu
  show WS _ _ _ [some (dR a), some (dL (g.map dI)), some (dI q)] _
  repeat trivial
  refine ite_d (fun _ => ?_) (fun _ => ?_)
  · repeat trivial
    refine rl_listF .fz ?_
    have h := hk g us hnd (by intro e; subst e; simp at hl0) (fun z h => h) (hs.mono (by omega))
    rw [CS.set_id hcs] at h
    exact h
  repeat trivial
  refine ite_d (fun _ => ?_) (fun _ => ?_)
  · refine ws_ret (w_lstF ?_)
    repeat trivial
    refine ⟨_, _, rfl, a, us, T, g.map dI, rfl, hcs, hs, by omega, fun _ => .fz, .fz, by intro e; have := congrArg List.length e; simp at this; subst this; simp at hl0, by simp; omega, fun u hu us' hs' => ?_⟩
    repeat trivial
    obtain ⟨z, hz, rfl⟩ := List.mem_map.mp hu
    exact hk [z] us' (by simp) (by simp) (fun w hw => by rw [List.mem_singleton.mp hw]; exact hz) (hs'.mono (by omega))
  repeat trivial
  refine ⟨_, _, rfl, a, us, T, g, rfl, hcs, hs, by omega, fun _ => .fz, .fz, by omega, fun ns us' hp hs' => ?_⟩
  repeat trivial
  rw [List.length_map]
  refine ⟨_, _, rfl, a, us', T + g.length, _, rfl, rfl, by omega, by omega, CS.same, hs', by omega, fun v us'' v0 v1 hs'' => ?_⟩
  repeat trivial
  refine rs_takeF .fz (by omega) ?_
  rw [← List.map_take, CS.set_set]
  refine hk _ _ ?_ ?_ ?_ (hs''.mono (by omega))
  · exact (hp.nodup_iff.mpr hnd).sublist (List.take_sublist _ _)
  · intro e
    have := congrArg List.length e
    rw [List.length_take, hp.length_eq, List.length_nil] at this
    omega
  · intro z hz
    exact hp.mem_iff.mp (List.mem_of_mem_take hz)
theorem sem_law_row {K : PySem.W.Frag} [Tx K] (E : XK) : ∀ ts cs Kk ke, g_law_row K ts cs Kk ke → WS (ZE E ke) (t_law_row K E) { nx := fun _ cs => Kk dN cs, rt := Kk } (startD N_law_row ts) cs := by
  rintro ts cs Kk ke ⟨x, y, z, rfl, a, us, T, n, f, rfl, rfl, rfl, hcs, hs, hT, hn0, hn1, hk⟩
  unfold t_law_row
  show WS _ _ _ [some (dR a), some (dI n), some (dB f), none, none] _
  repeat trivial
  refine ⟨_, _, rfl, a, us, T, n, rfl, rfl, hcs, hs, by omega, hn0, hn1, fun g us' h1 h2 h3 h4 hs' => ?_⟩
  repeat decreasing_trivial
  refine ws_nx (fun ds cs' => ∃ (q : Int) (us2 : List Ty), ds = [some (dR a), some (dI n), some (dB f), some (dL (g.map dI)), some (dI q)] ∧ cs' = cs.set a (.lst us2) ∧ Src us2 (T + 21)) ?_ ?_
  · repeat trivial
    refine ite_nb (fun _ => ?_) (fun _ => ?_)
    · repeat trivial
      refine ⟨_, _, rfl, a, us', T + 20, _, rfl, rfl, by omega, by omega, CS.same, hs', by omega, fun v us'' v0 v1 hs'' => ?_⟩
      repeat trivial
      exact ⟨v, us'', rfl, CS.set_set, hs''.mono (by omega)⟩
    · repeat trivial
      exact ⟨0, us', rfl, rfl, hs'.mono (by omega)⟩
  · rintro ds cs' ⟨q, us2, rfl, rfl, hs2⟩
    repeat trivial
    refine ⟨_, _, _, rfl, a, us2, T + 21, g, q, rfl, rfl, rfl, CS.same, hs2, by omega, h1, h2, h3, fun m us3 k1 k2 k3 hs3 => ?_⟩
    repeat trivial
    refine ⟨_, rfl, a, us3, T + 41, rfl, CS.same, hs3, by omega, fun v us4 v0 v1 hs4 => ?_⟩
    repeat trivial
    rw [CS.set_set, CS.set_set]
    exact hk ⟨g, m, v⟩ us4 ⟨h1, h2, h4, k1, k2, k3, v0, v1⟩ (hs4.mono (by omega))
end K63

set_option Elab.async false
set_option linter.all false
set_option maxRecDepth 100000
set_option maxHeartbeats 2000000
set_option autoImplicit false
namespace K63
open PySem PySem.Spec PyProof.Rows L2 S
local macro_rules | `(tactic| trivial) => `(tactic| first
  | with_reducible refine ws_seq ?_ | with_reducible refine ws_set ?_ | with_reducible refine ws_ret ?_ | with_reducible refine ws_retN ?_ | with_reducible refine ws_drop ?_ | with_reducible refine ws_if ?_ | with_reducible refine ws_next ?_ | with_reducible refine ws_asg ?_
  | with_reducible refine ws_fldS ?_ | ((with_reducible apply fldE); (focus first | exact CS.same | assumption); (focus exact Nat.le_of_ble_eq_true (by rfl)); (focus infer_instance); (focus infer_instance))
  | with_reducible refine wt_test ?_ | with_reducible refine wt_B ?_ | with_reducible refine wt_and ?_ | with_reducible refine wt_or ?_ | with_reducible refine wt_not ?_ | with_reducible refine wt_tru ?_
  | ((with_reducible apply w_var); (focus rfl))
  | with_reducible refine w_int ?_ | with_reducible refine w_str ?_ | with_reducible refine w_bl ?_ | with_reducible refine w_non ?_ | with_reducible refine w_ref ?_ | with_reducible refine w_ty ?_
  | with_reducible refine w_op ?_ | with_reducible refine w_un ?_ | with_reducible refine w_chain ?_ | with_reducible refine w_if ?_ | with_reducible refine w_andV ?_ | with_reducible refine w_orV ?_ | with_reducible refine w_notV ?_
  | with_reducible refine wa_cons ?_ | with_reducible refine wa_nil ?_ | with_reducible refine w_tup ?_ | with_reducible refine w_cb ?_
  | with_reducible refine w_fld ?_ | with_reducible refine w_con ?_ | with_reducible refine w_callN0 ?_ | with_reducible refine w_callN ?_
  | with_reducible refine r2_addI ?_ | with_reducible refine r2_subI ?_ | with_reducible refine r2_ltI ?_ | with_reducible refine r2_leI ?_ | with_reducible refine r2_gtI ?_ | with_reducible refine r2_geI ?_ | with_reducible refine r2_eqI ?_ | with_reducible refine r2_neI ?_ | with_reducible refine r2_eqS ?_ | with_reducible refine r2_neS ?_
  | ((with_reducible apply r2_ix); (focus first | exact .tp | exact .fz | exact .sc | exact .cl CS.same | exact .cl (by assumption) | exact IsL.q (by assumption)); (focus rfl))
  | with_reducible refine w_sl ?_ | with_reducible refine wo_none ?_ | with_reducible refine wo_some ?_
  | ((with_reducible apply rl_len); (focus first | exact .tp | exact .fz | exact .sc | exact .cl CS.same | exact .cl (by assumption) | exact IsL.q (by assumption)))
  | ((with_reducible apply fwE); (focus first | exact .fz | exact .cl CS.same | exact .cl (by assumption)); (focus rfl); (focus infer_instance); (focus infer_instance))
  | with_reducible refine rl_int ?_ | with_reducible refine rl_boolB ?_
  | with_reducible refine r2_isN_yes ?_ | with_reducible refine r2_notN_no ?_ | ((with_reducible apply r2_isN_no); (focus constructor)) | ((with_reducible apply r2_notN_yes); (focus constructor))
  | ((with_reducible apply rl_isY (b := true)); (focus first | exact .int _ | exact .str _ | exact .bl _ | exact .non | exact .tup _ | exact .lst .fz | exact .lst (by assumption)); (focus rfl))
  | ((with_reducible apply rl_isY (b := false)); (focus first | exact .int _ | exact .str _ | exact .bl _ | exact .non | exact .tup _ | exact .lst .fz | exact .lst (by assumption)); (focus rfl))
  | with_reducible refine w_bm ?_ | (refine ⟨tyw_list (ts := _) (by first | exact .cl CS.same | exact .cl (by assumption) | exact .fz), ?_⟩)
  | ((with_reducible apply wg_tup); (focus rfl)) | with_reducible refine wgs_cons ?_ | with_reducible refine wgs_nil ?_
  | with_reducible refine wg_name ?_
  | with_reducible refine wg_subLs ?_ | ((with_reducible apply subw); (focus first | exact CS.same | assumption); (focus rfl))
  | with_reducible refine ite_t ?_ | with_reducible refine ite_f ?_ | with_reducible refine ite_nt ?_ | with_reducible refine ite_nf ?_
  | with_reducible refine ⟨_, rfl, ?_⟩
  | refine ⟨Nat.le_of_ble_eq_true (by rfl), ?_⟩ | with_reducible refine ⟨_, tru_B, ?_⟩ | with_reducible refine ⟨_, tru_I, ?_⟩ | with_reducible refine ⟨_, tru_N, ?_⟩)
local macro_rules | `(tactic| decreasing_trivial) => `(tactic| first
  | with_reducible refine ws_seq ?_ | with_reducible refine ws_set ?_ | with_reducible refine ws_ret ?_ | with_reducible refine ws_retN ?_ | with_reducible refine ws_drop ?_ | with_reducible refine ws_next ?_ | with_reducible refine ws_asg ?_
  | with_reducible refine ws_fldS ?_ | ((with_reducible apply fldE); (focus first | exact CS.same | assumption); (focus exact Nat.le_of_ble_eq_true (by rfl)); (focus infer_instance); (focus infer_instance))
  | with_reducible refine wt_test ?_ | with_reducible refine wt_B ?_ | with_reducible refine wt_and ?_ | with_reducible refine wt_or ?_ | with_reducible refine wt_not ?_ | with_reducible refine wt_tru ?_
  | ((with_reducible apply w_var); (focus rfl))
  | with_reducible refine w_int ?_ | with_reducible refine w_str ?_ | with_reducible refine w_bl ?_ | with_reducible refine w_non ?_ | with_reducible refine w_ref ?_ | with_reducible refine w_ty ?_
  | with_reducible refine w_op ?_ | with_reducible refine w_un ?_ | with_reducible refine w_chain ?_ | with_reducible refine w_if ?_ | with_reducible refine w_andV ?_ | with_reducible refine w_orV ?_ | with_reducible refine w_notV ?_
  | with_reducible refine wa_cons ?_ | with_reducible refine wa_nil ?_ | with_reducible refine w_tup ?_ | with_reducible refine w_cb ?_
  | with_reducible refine w_fld ?_ | with_reducible refine w_con ?_ | with_reducible refine w_callN0 ?_ | with_reducible refine w_callN ?_
  | with_reducible refine r2_addI ?_ | with_reducible refine r2_subI ?_ | with_reducible refine r2_ltI ?_ | with_reducible refine r2_leI ?_ | with_reducible refine r2_gtI ?_ | with_reducible refine r2_geI ?_ | with_reducible refine r2_eqI ?_ | with_reducible refine r2_neI ?_ | with_reducible refine r2_eqS ?_ | with_reducible refine r2_neS ?_
  | ((with_reducible apply r2_ix); (focus first | exact .tp | exact .fz | exact .sc | exact .cl CS.same | exact .cl (by assumption) | exact IsL.q (by assumption)); (focus rfl))
  | with_reducible refine w_sl ?_ | with_reducible refine wo_none ?_ | with_reducible refine wo_some ?_
  | ((with_reducible apply rl_len); (focus first | exact .tp | exact .fz | exact .sc | exact .cl CS.same | exact .cl (by assumption) | exact IsL.q (by assumption)))
  | ((with_reducible apply fwE); (focus first | exact .fz | exact .cl CS.same | exact .cl (by assumption)); (focus rfl); (focus infer_instance); (focus infer_instance))
  | with_reducible refine rl_int ?_ | with_reducible refine rl_boolB ?_
  | with_reducible refine r2_isN_yes ?_ | with_reducible refine r2_notN_no ?_ | ((with_reducible apply r2_isN_no); (focus constructor)) | ((with_reducible apply r2_notN_yes); (focus constructor))
  | ((with_reducible apply rl_isY (b := true)); (focus first | exact .int _ | exact .str _ | exact .bl _ | exact .non | exact .tup _ | exact .lst .fz | exact .lst (by assumption)); (focus rfl))
  | ((with_reducible apply rl_isY (b := false)); (focus first | exact .int _ | exact .str _ | exact .bl _ | exact .non | exact .tup _ | exact .lst .fz | exact .lst (by assumption)); (focus rfl))
  | with_reducible refine w_bm ?_ | (refine ⟨tyw_list (ts := _) (by first | exact .cl CS.same | exact .cl (by assumption) | exact .fz), ?_⟩)
  | ((with_reducible apply wg_tup); (focus rfl)) | with_reducible refine wgs_cons ?_ | with_reducible refine wgs_nil ?_
  | with_reducible refine wg_name ?_
  | with_reducible refine wg_subLs ?_ | ((with_reducible apply subw); (focus first | exact CS.same | assumption); (focus rfl))
  | with_reducible refine ite_t ?_ | with_reducible refine ite_f ?_ | with_reducible refine ite_nt ?_ | with_reducible refine ite_nf ?_
  | with_reducible refine ⟨_, rfl, ?_⟩
  | refine ⟨Nat.le_of_ble_eq_true (by rfl), ?_⟩ | with_reducible refine ⟨_, tru_B, ?_⟩ | with_reducible refine ⟨_, tru_I, ?_⟩ | with_reducible refine ⟨_, tru_N, ?_⟩)
theorem sem_law_rows {K : PySem.W.Frag} [Tx K] (E : XK) : ∀ ts cs Kk ke, g_law_rows K ts cs Kk ke → WS (ZE E ke) (t_law_rows K E) { nx := fun _ cs => Kk dN cs, rt := Kk } (startD N_law_rows ts) cs := by
  rintro ts cs Kk ke ⟨x, y, z, w, rfl, a, us, T, n, q, f, rfl, rfl, rfl, rfl, hcs, hs, hT, hn0, hn1, hq0, hq1, hk⟩
  unfold t_law_rows
  show WS _ _ _ [some (dR a), some (dI n), some (dI q), some (dB f), none] _
  repeat trivial
  refine ite_d (fun _ => ?_) (fun h2 => ?_)
  · refine ws_ret (w_lstF ?_)
    repeat trivial
    have h := hk [] us (by simp) (by simp) (hs.mono (by omega))
    rw [CS.set_id hcs] at h
    exact h
  refine ws_next (ws_ret (w_frz (w_lcR1 (gonly_name (by simp)) ?_)))
  repeat trivial
  refine ⟨_, _, rfl, a, us, T, _, rfl, rfl, by omega, by omega, hcs, hs, by omega, fun v us' v0 v1 hs' => ?_⟩
  repeat trivial
  refine ⟨by omega, by omega, fun D i acc cs' => ∃ (rs : List RowD) (ts' : List Ty), acc = rs.map rowT ∧ rs.length = i ∧ i ≤ 8 ∧ (∀ r ∈ rs, r.Ok n) ∧ Src ts' (T + 1 + 50 * i) ∧ cs' a = some (.lst ts') ∧ cs' D = some (.lst acc) ∧ ∀ b, b ≠ a → b ≠ D → cs' b = cs b, fun D hD => ?_⟩
  have hDc : cs D = none := by
    by_cases e : D = a
    · subst e; rw [CS.same] at hD; cases hD
    · rw [CS.ne e] at hD; exact hD
  have haD : a ≠ D := CS.ne_of hcs hDc
  refine ⟨⟨[], us', rfl, rfl, by omega, by simp, hs', by rw [CS.ne haD, CS.same], CS.same, fun b h1 h2 => by rw [CS.ne h2, CS.ne h1]⟩, fun _ _ _ _ => True.intro, ?_, ?_⟩
  · rintro i t acc cs' hi rfl hacc ⟨rs, ts', rfl, rfl, hi8, hok, hs2, ha, hD2, hb⟩
    repeat trivial
    refine wt_yes ?_
    repeat trivial
    refine ⟨_, _, _, rfl, a, ts', T + 1 + 50 * rs.length, n, f, rfl, rfl, rfl, ha, hs2, by omega, by omega, hn1, fun r us3 hr hs3 => ?_⟩
    refine ⟨by rw [CS.ne haD.symm]; exact hacc, by rw [List.length_map]; exact Nat.lt_of_le_of_lt hi8 (by decide), rs ++ [r], us3, by simp, by simp, by omega, ?_, hs3.mono (by omega), by rw [CS.ne haD, CS.same], CS.same, fun b h1 h2 => by rw [CS.ne h2, CS.ne h1]; exact hb b h1 h2⟩
    intro r' hr'
    rcases List.mem_append.mp hr' with h | h
    · exact hok r' h
    · rw [List.mem_singleton.mp h]; exact hr
  · rintro acc cs' hacc ⟨rs, ts', rfl, hl, hi8, hok, hs2, ha, hD2, hb⟩
    exact ⟨_, _, (frz_lst hD2).trans (frz_less (less1 ha hDc haD hb)), hk rs ts' (by omega) hok (hs2.mono (by omega))⟩
theorem sem_law_repeated {K : PySem.W.Frag} [Tx K] (E : XK) : ∀ ts cs Kk ke, g_law_repeated K ts cs Kk ke → WS (ZE E ke) (t_law_repeated K E) { nx := fun _ cs => Kk dN cs, rt := Kk } (startD N_law_repeated ts) cs := by
  rintro ts cs Kk ke ⟨x, y, rfl, a, us, T, rs, rfl, rfl, hcs, hs, hT, hl, hk⟩
  unfold t_law_repeated
  show WS _ _ _ [some (dR a), some (dL (rs.map rowT)), none] _
  have h0 := hk rs us (by omega) (fun _ h => h) (hs.mono (by omega))
  rw [CS.set_id hcs] at h0
  repeat trivial
  rw [List.length_map]
  refine ite_d (fun _ => ?_) (fun h2 => ?_)
  · repeat trivial
  repeat trivial
  refine ⟨_, _, rfl, a, us, T, _, rfl, rfl, by omega, by omega, hcs, hs, by omega, fun v us' v0 v1 hs' => ?_⟩
  repeat trivial
  refine ite_nd (fun _ => ?_) (fun _ => ?_)
  · repeat trivial
    exact hk rs us' (by omega) (fun _ h => h) (hs'.mono (by omega))
  refine ws_next (ws_ret (w_frz (w_lcR1 (gonly_name (by simp)) ?_)))
  repeat trivial
  refine ⟨_, _, rfl, a, us', T + 1, _, rfl, rfl, by omega, by omega, CS.same, hs', by omega, fun u us2 u0 u1 hs2 => ?_⟩
  repeat trivial
  have hpos : 0 < rs.length := by omega
  refine ⟨by omega, by omega, lck_rng (lo := 0) (fun j => some (rowT (rs[(j % (rs.length : Int)).toNat]?.getD ⟨[], [], 0⟩))) (Nat.lt_of_le_of_lt (show u.toNat ≤ 41 by omega) (by decide)) ?_ ?_⟩
  · intro D acc i hD hi
    repeat trivial
    refine wt_yes ?_
    repeat trivial
    rw [List.length_map]
    refine r2_modI (by omega) ?_
    have m0 := Int.emod_nonneg (0 + (i : Int)) (show (rs.length : Int) ≠ 0 by omega)
    have m1 := Int.emod_lt_of_pos (0 + (i : Int)) (show (0 : Int) < (rs.length : Int) by omega)
    generalize (0 + (i : Int)) % (rs.length : Int) = j at m0 m1
    refine r2_ix .fz (atI_map m0 (by omega)) ⟨rfl, ?_⟩
    rw [List.getElem?_eq_getElem (by omega)]
    rfl
  · intro D hD
    rw [CS.set_set]
    rw [CS.set_set] at hD
    refine ⟨_, _, frz_new hD, ?_⟩
    have e : (List.range u.toNat).filterMap (fun (i : Nat) => some (rowT (rs[((0 + (i : Int)) % (rs.length : Int)).toNat]?.getD ⟨[], [], 0⟩))) = ((List.range u.toNat).map fun (i : Nat) => rs[((0 + (i : Int)) % (rs.length : Int)).toNat]?.getD ⟨[], [], 0⟩).map rowT := by
      rw [List.filterMap_eq_map', List.map_map]
      rfl
    rw [e]
    refine hk _ us2 (by simp; omega) ?_ (hs2.mono (by omega))
    intro r hr
    obtain ⟨i, hi, rfl⟩ := List.mem_map.mp hr
    have m0 := Int.emod_nonneg (0 + (i : Int)) (show (rs.length : Int) ≠ 0 by omega)
    have m1 := Int.emod_lt_of_pos (0 + (i : Int)) (show (0 : Int) < (rs.length : Int) by omega)
    rw [List.getElem?_eq_getElem (by omega)]
    exact List.getElem_mem _
theorem sem_law_case {K : PySem.W.Frag} [Tx K] (E : XK) : ∀ ts cs Kk ke, g_law_case K ts cs Kk ke → WS (ZE E ke) (t_law_case K E) { nx := fun _ cs => Kk dN cs, rt := Kk } (startD N_law_case ts) cs := by
  rintro ts cs Kk ke ⟨x, rfl, a, us, T, rfl, hcs, hs, hT, hk⟩
  unfold t_law_case
  show WS _ _ _ [some (dR a), none, none, none, none, none] _
  repeat trivial
  refine ⟨_, _, rfl, a, us, T, _, rfl, rfl, by omega, by omega, hcs, hs, by omega, fun n u1 n0 n1 hs1 => ?_⟩
  repeat trivial
  refine ⟨_, _, rfl, a, u1, T + 1, _, rfl, rfl, by omega, by omega, CS.same, hs1, by omega, fun top u2 t0 t1 hs2 => ?_⟩
  repeat trivial
  refine ⟨_, _, rfl, a, u2, T + 2, _, rfl, rfl, by omega, by omega, CS.same, hs2, by omega, fun many u3 m0 m1 hs3 => ?_⟩
  repeat trivial
  refine w_lstF ?_
  repeat trivial
  refine ⟨_, _, rfl, a, u3, T + 3, _, rfl, CS.same, hs3, by omega, fun _ => .fz, .fz, by simp, by simp, fun nm hnm u4 hs4 => ?_⟩
  obtain ⟨b, rfl⟩ : ∃ b, nm = dS (modeN b) := by
    rcases List.mem_cons.mp hnm with h | h
    · exact ⟨true, h⟩
    · rcases List.mem_cons.mp h with h | h
      · exact ⟨false, h⟩
      · cases h
  repeat trivial
  refine ⟨_, _, rfl, a, u4, T + 4, _, rfl, rfl, by omega, by omega, CS.same, hs4, by omega, fun fr u5 f0 f1 hs5 => ?_⟩
  repeat trivial
  refine ⟨_, _, _, _, rfl, a, u5, T + 5, 1 + n, 8, _, rfl, rfl, rfl, rfl, CS.same, hs5, by omega, by omega, by omega, by omega, by omega, fun rs u6 r0 r1 hs6 => ?_⟩
  repeat trivial
  refine ⟨_, _, rfl, a, u6, T + 5 + 1000, rs, rfl, rfl, CS.same, hs6, by omega, r0, fun rs' u7 q0 q1 hs7 => ?_⟩
  repeat trivial
  simp only [CS.set_set]
  exact hk ⟨1 + n, top, many, b, rs'⟩ u7 ⟨by show 1 ≤ 1 + n; omega, by show 1 + n ≤ 12; omega, t0, t1, m0, by show many ≤ 8; omega, q0, fun r hr => r1 r (q1 r hr)⟩ (hs7.mono (by omega))
theorem sem_law_mode {K : PySem.W.Frag} [Tx K] (E : XK) : ∀ ts cs Kk ke, g_law_mode K ts cs Kk ke → WS (ZE E ke) (t_law_mode K E) { nx := fun _ cs => Kk dN cs, rt := Kk } (startD N_law_mode ts) cs := by
  rintro ts cs Kk ke ⟨x, rfl, b, rfl, hk⟩
  unfold t_law_mode
  show WS _ _ _ [some (dS (modeN b))] _
  repeat trivial
  cases b
  · refine ite_d (fun h => ?_) (fun _ => ?_)
    · exact absurd h (by decide)
    repeat trivial
    refine w_frz (w_mk0 fun x hx => ⟨_, _, frz_newO hx, hk⟩)
  · refine ite_d (fun _ => ?_) (fun h => ?_)
    · repeat trivial
      refine w_frz (w_mk0 fun x hx => ⟨_, _, frz_newO hx, hk⟩)
    · exact absurd rfl h
theorem sem_law_demand {K : PySem.W.Frag} [Tx K] (E : XK) : ∀ ts cs Kk ke, g_law_demand K ts cs Kk ke → WS (ZE E ke) (t_law_demand K E) { nx := fun _ cs => Kk dN cs, rt := Kk } (startD N_law_demand ts) cs := by
  rintro ts cs Kk ke ⟨x, y, z, rfl, r, c, b, rfl, rfl, rfl, r0, r1, c0, c1, hk⟩
  unfold t_law_demand
  show WS _ _ _ [some (dI r), some (dI c), some (dS (modeN b))] _
  repeat trivial
  refine w_makeF (fs := demF K r c b) ?_
  repeat trivial
  refine ⟨_, rfl, b, rfl, ?_⟩
  repeat trivial
  refine ⟨hk, fun x hx kk hkk => ⟨_, _, _, _, rfl, x, r, c, b, rfl, CS.same, rfl, rfl, rfl, r0, r1, c0, c1, ?_⟩⟩
  rw [CS.set_set]
  exact hkk
theorem sem_law_true {K : PySem.W.Frag} [Tx K] (E : XK) : ∀ ts cs Kk ke, g_law_true K ts cs Kk ke → WS (ZE E ke) (t_law_true K E) { nx := fun _ cs => Kk dN cs, rt := Kk } (startD N_law_true ts) cs := by
  rintro ts cs Kk ke ⟨x, rfl, b, rfl, hk⟩
  unfold t_law_true
  show WS _ _ _ [some (dB b)] _
  repeat trivial
  cases b
  · repeat trivial
  · repeat trivial
theorem sem_law_network {K : PySem.W.Frag} [Tx K] (E : XK) : ∀ ts cs Kk ke, g_law_network K ts cs Kk ke → WS (ZE E ke) (t_law_network K E) { nx := fun _ cs => Kk dN cs, rt := Kk } (startD N_law_network ts) cs := by
  rintro ts cs Kk ke ⟨x, y, rfl, n, rs, rfl, rfl, n0, n1, hl, hok, hk⟩
  unfold t_law_network
  show WS _ _ _ [some (dI n), some (dL (rs.map rowT)), none] _
  repeat trivial
  refine w_makeF (fs := netF K n (rs.map RowD.lot)) ?_
  repeat trivial
  refine w_frz (w_lcL (gonly_name (by simp)) ?_)
  repeat trivial
  refine ⟨_, .fz, lck_mapL (fun r => lotT K r.lot) (fun _ _ _ => .fz) (Nat.lt_of_le_of_lt hl (by decide)) ?_ ?_⟩
  · intro r cs2 hr hb
    repeat trivial
    exact ⟨_, rfl, r, rfl, ⟨(hok r hr).nd, (hok r hr).len, fun z hz => ⟨((hok r hr).rng z hz).1, by have := ((hok r hr).rng z hz).2; omega⟩, (hok r hr).mnd, (hok r hr).mne, (hok r hr).sub, (hok r hr).p0, (hok r hr).p1⟩, rfl, rfl⟩
  repeat trivial
  refine ⟨hk, fun x hx kk hkk => ⟨_, _, _, rfl, x, n, rs.map RowD.lot, rfl, CS.same, rfl, n0, n1, by rw [List.map_map]; exact .fz, by simpa using hl, ?_, ?_⟩⟩
  · intro l hl
    obtain ⟨r, hr, rfl⟩ := List.mem_map.mp hl
    exact (hok r hr).lot
  · rw [CS.set_set]
    exact hkk
theorem sem_law_lot {K : PySem.W.Frag} [Tx K] (E : XK) : ∀ ts cs Kk ke, g_law_lot K ts cs Kk ke → WS (ZE E ke) (t_law_lot K E) { nx := fun _ cs => Kk dN cs, rt := Kk } (startD N_law_lot ts) cs := by
  rintro ts cs Kk ke ⟨x, rfl, r, rfl, hr, hk⟩
  unfold t_law_lot
  unfold rowT
  show WS _ _ _ [some (dT [dL (r.g.map dI), dL (r.m.map dI), dI r.c])] _
  repeat trivial
  refine w_makeF (fs := r.lot.F) ?_
  repeat trivial
  refine rl_listF .fz ?_
  repeat trivial
  refine rl_listF .fz ?_
  repeat trivial
  have bound : ∀ l : List Int, l.Nodup → (∀ z ∈ l, 0 ≤ z ∧ z < 12) → l.length < 1000 := fun l h1 h2 => by
    have h := h1.length_le_of_subset (l₂ := rangeI 12) (fun z hz => mem_rangeI.mpr (h2 z hz))
    rw [rangeI_len] at h
    omega
  refine ⟨hk, fun x hx kk hkk => ⟨_, _, _, _, rfl, x, r.g, r.m, r.c, rfl, CS.same, .fz, .inr .fz, rfl, ⟨hr.nd, hr.len, bound _ hr.nd hr.rng, hr.rng, hr.mnd, hr.mne, bound _ hr.mnd fun z hz => hr.rng z (hr.sub z hz), hr.sub, hr.p0, hr.p1⟩, ?_⟩⟩
  rw [CS.set_set]
  exact hkk
end K63

set_option Elab.async false
set_option linter.all false
set_option maxRecDepth 100000
set_option maxHeartbeats 2000000
set_option autoImplicit false
namespace K63
open PySem PySem.Spec PyProof.Rows L2 S
local macro_rules | `(tactic| trivial) => `(tactic| first
  | with_reducible refine ws_seq ?_ | with_reducible refine ws_set ?_ | with_reducible refine ws_ret ?_ | with_reducible refine ws_retN ?_ | with_reducible refine ws_drop ?_ | with_reducible refine ws_if ?_ | with_reducible refine ws_next ?_ | with_reducible refine ws_asg ?_
  | with_reducible refine ws_fldS ?_ | ((with_reducible apply fldE); (focus first | exact CS.same | assumption); (focus exact Nat.le_of_ble_eq_true (by rfl)); (focus infer_instance); (focus infer_instance))
  | with_reducible refine wt_test ?_ | with_reducible refine wt_B ?_ | with_reducible refine wt_and ?_ | with_reducible refine wt_or ?_ | with_reducible refine wt_not ?_ | with_reducible refine wt_tru ?_
  | ((with_reducible apply w_var); (focus rfl))
  | with_reducible refine w_int ?_ | with_reducible refine w_str ?_ | with_reducible refine w_bl ?_ | with_reducible refine w_non ?_ | with_reducible refine w_ref ?_ | with_reducible refine w_ty ?_
  | with_reducible refine w_op ?_ | with_reducible refine w_un ?_ | with_reducible refine w_chain ?_ | with_reducible refine w_if ?_ | with_reducible refine w_andV ?_ | with_reducible refine w_orV ?_ | with_reducible refine w_notV ?_
  | with_reducible refine wa_cons ?_ | with_reducible refine wa_nil ?_ | with_reducible refine w_tup ?_ | with_reducible refine w_cb ?_
  | with_reducible refine w_fld ?_ | with_reducible refine w_con ?_ | with_reducible refine w_callN0 ?_ | with_reducible refine w_callN ?_
  | with_reducible refine r2_addI ?_ | with_reducible refine r2_subI ?_ | with_reducible refine r2_ltI ?_ | with_reducible refine r2_leI ?_ | with_reducible refine r2_gtI ?_ | with_reducible refine r2_geI ?_ | with_reducible refine r2_eqI ?_ | with_reducible refine r2_neI ?_ | with_reducible refine r2_eqS ?_ | with_reducible refine r2_neS ?_
  | ((with_reducible apply r2_ix); (focus first | exact .tp | exact .fz | exact .sc | exact .cl CS.same | exact .cl (by assumption) | exact IsL.q (by assumption)); (focus rfl))
  | with_reducible refine w_sl ?_ | with_reducible refine wo_none ?_ | with_reducible refine wo_some ?_
  | ((with_reducible apply rl_len); (focus first | exact .tp | exact .fz | exact .sc | exact .cl CS.same | exact .cl (by assumption) | exact IsL.q (by assumption)))
  | ((with_reducible apply fwE); (focus first | exact .fz | exact .cl CS.same | exact .cl (by assumption)); (focus rfl); (focus infer_instance); (focus infer_instance))
  | with_reducible refine rl_int ?_ | with_reducible refine rl_boolB ?_
  | with_reducible refine r2_isN_yes ?_ | with_reducible refine r2_notN_no ?_ | ((with_reducible apply r2_isN_no); (focus constructor)) | ((with_reducible apply r2_notN_yes); (focus constructor))
  | ((with_reducible apply rl_isY (b := true)); (focus first | exact .int _ | exact .str _ | exact .bl _ | exact .non | exact .tup _ | exact .lst .fz | exact .lst (by assumption)); (focus rfl))
  | ((with_reducible apply rl_isY (b := false)); (focus first | exact .int _ | exact .str _ | exact .bl _ | exact .non | exact .tup _ | exact .lst .fz | exact .lst (by assumption)); (focus rfl))
  | with_reducible refine w_bm ?_ | (refine ⟨tyw_list (ts := _) (by first | exact .cl CS.same | exact .cl (by assumption) | exact .fz), ?_⟩)
  | ((with_reducible apply wg_tup); (focus rfl)) | with_reducible refine wgs_cons ?_ | with_reducible refine wgs_nil ?_
  | with_reducible refine wg_name ?_
  | with_reducible refine wg_subLs ?_ | ((with_reducible apply subw); (focus first | exact CS.same | assumption); (focus rfl))
  | with_reducible refine ite_t ?_ | with_reducible refine ite_f ?_ | with_reducible refine ite_nt ?_ | with_reducible refine ite_nf ?_
  | with_reducible refine ⟨_, rfl, ?_⟩
  | refine ⟨Nat.le_of_ble_eq_true (by rfl), ?_⟩ | with_reducible refine ⟨_, tru_B, ?_⟩ | with_reducible refine ⟨_, tru_I, ?_⟩ | with_reducible refine ⟨_, tru_N, ?_⟩)
local macro_rules | `(tactic| decreasing_trivial) => `(tactic| first
  | with_reducible refine ws_seq ?_ | with_reducible refine ws_set ?_ | with_reducible refine ws_ret ?_ | with_reducible refine ws_retN ?_ | with_reducible refine ws_drop ?_ | with_reducible refine ws_next ?_ | with_reducible refine ws_asg ?_
  | with_reducible refine ws_fldS ?_ | ((with_reducible apply fldE); (focus first | exact CS.same | assumption); (focus exact Nat.le_of_ble_eq_true (by rfl)); (focus infer_instance); (focus infer_instance))
  | with_reducible refine wt_test ?_ | with_reducible refine wt_B ?_ | with_reducible refine wt_and ?_ | with_reducible refine wt_or ?_ | with_reducible refine wt_not ?_ | with_reducible refine wt_tru ?_
  | ((with_reducible apply w_var); (focus rfl))
  | with_reducible refine w_int ?_ | with_reducible refine w_str ?_ | with_reducible refine w_bl ?_ | with_reducible refine w_non ?_ | with_reducible refine w_ref ?_ | with_reducible refine w_ty ?_
  | with_reducible refine w_op ?_ | with_reducible refine w_un ?_ | with_reducible refine w_chain ?_ | with_reducible refine w_if ?_ | with_reducible refine w_andV ?_ | with_reducible refine w_orV ?_ | with_reducible refine w_notV ?_
  | with_reducible refine wa_cons ?_ | with_reducible refine wa_nil ?_ | with_reducible refine w_tup ?_ | with_reducible refine w_cb ?_
  | with_reducible refine w_fld ?_ | with_reducible refine w_con ?_ | with_reducible refine w_callN0 ?_ | with_reducible refine w_callN ?_
  | with_reducible refine r2_addI ?_ | with_reducible refine r2_subI ?_ | with_reducible refine r2_ltI ?_ | with_reducible refine r2_leI ?_ | with_reducible refine r2_gtI ?_ | with_reducible refine r2_geI ?_ | with_reducible refine r2_eqI ?_ | with_reducible refine r2_neI ?_ | with_reducible refine r2_eqS ?_ | with_reducible refine r2_neS ?_
  | ((with_reducible apply r2_ix); (focus first | exact .tp | exact .fz | exact .sc | exact .cl CS.same | exact .cl (by assumption) | exact IsL.q (by assumption)); (focus rfl))
  | with_reducible refine w_sl ?_ | with_reducible refine wo_none ?_ | with_reducible refine wo_some ?_
  | ((with_reducible apply rl_len); (focus first | exact .tp | exact .fz | exact .sc | exact .cl CS.same | exact .cl (by assumption) | exact IsL.q (by assumption)))
  | ((with_reducible apply fwE); (focus first | exact .fz | exact .cl CS.same | exact .cl (by assumption)); (focus rfl); (focus infer_instance); (focus infer_instance))
  | with_reducible refine rl_int ?_ | with_reducible refine rl_boolB ?_
  | with_reducible refine r2_isN_yes ?_ | with_reducible refine r2_notN_no ?_ | ((with_reducible apply r2_isN_no); (focus constructor)) | ((with_reducible apply r2_notN_yes); (focus constructor))
  | ((with_reducible apply rl_isY (b := true)); (focus first | exact .int _ | exact .str _ | exact .bl _ | exact .non | exact .tup _ | exact .lst .fz | exact .lst (by assumption)); (focus rfl))
  | ((with_reducible apply rl_isY (b := false)); (focus first | exact .int _ | exact .str _ | exact .bl _ | exact .non | exact .tup _ | exact .lst .fz | exact .lst (by assumption)); (focus rfl))
  | with_reducible refine w_bm ?_ | (refine ⟨tyw_list (ts := _) (by first | exact .cl CS.same | exact .cl (by assumption) | exact .fz), ?_⟩)
  | ((with_reducible apply wg_tup); (focus rfl)) | with_reducible refine wgs_cons ?_ | with_reducible refine wgs_nil ?_
  | with_reducible refine wg_name ?_
  | with_reducible refine wg_subLs ?_ | ((with_reducible apply subw); (focus first | exact CS.same | assumption); (focus rfl))
  | with_reducible refine ite_t ?_ | with_reducible refine ite_f ?_ | with_reducible refine ite_nt ?_ | with_reducible refine ite_nf ?_
  | with_reducible refine ⟨_, rfl, ?_⟩
  | refine ⟨Nat.le_of_ble_eq_true (by rfl), ?_⟩ | with_reducible refine ⟨_, tru_B, ?_⟩ | with_reducible refine ⟨_, tru_I, ?_⟩ | with_reducible refine ⟨_, tru_N, ?_⟩)
theorem con_mode {K : PySem.W.Frag} [Tx K] (b : Bool) : ∃ u, Con K (He.ga K (modeC b)) "NAME" (.str (modeN b)) u := by
  cases b
  · exact con_Spread_NAME
  · exact con_Gather_NAME
theorem cls_mode {K : PySem.W.Frag} [Tx K] (b : Bool) : Cls K (He.ga K (modeC b)) := by
  cases b
  · exact cls_Spread
  · exact cls_Gather
theorem take_nodup {ns : List Int} {i : Nat} (h : i < ns.length) : (ns.take (i + 1)).Nodup ↔ (ns.take i).Nodup ∧ ns[i] ∉ ns.take i := by
  rw [List.take_succ_eq_append_getElem h, List.nodup_append]
  constructor
  · rintro ⟨h1, _, h3⟩
    exact ⟨h1, fun hm => h3 _ hm _ (List.mem_singleton.mpr rfl) rfl⟩
  · rintro ⟨h1, h2⟩
    exact ⟨h1, by simp, fun a ha b hb e => h2 (by rw [List.mem_singleton.mp hb] at e; rw [← e]; exact ha)⟩
theorem sem_all_different {K : PySem.W.Frag} [Tx K] (E : XK) : ∀ ts cs Kk ke, g_all_different K ts cs Kk ke → WS (ZE E ke) (t_all_different K E) { nx := fun _ cs => Kk dN cs, rt := Kk } (startD N_all_different ts) cs := by
  rintro ts cs Kk ke ⟨x, rfl, ns, hx, hl, hk⟩
  unfold t_all_different
  show WS _ _ _ [some x, none] _
  refine ws_seq (ws_forR1 ?_)
  repeat trivial
  rw [List.length_map]
  refine ⟨by omega, by omega, fun i ds cs' => (∃ o, ds = [some x, o]) ∧ cs' = cs ∧ (ns.take i).Nodup, ⟨⟨_, rfl⟩, rfl, by simp⟩, ?_, ?_⟩
  · rintro i ds cs' hi ⟨⟨o, rfl⟩, rfl, hn⟩
    have hi2 : i < ns.length := by omega
    repeat trivial
    refine r2_ix hx.q (atI_z (by rw [List.getElem?_map, List.getElem?_eq_getElem hi2]; rfl)) ?_
    repeat trivial
    refine rs_takeF hx (by omega) ?_
    rw [show (0 + (i : Int)).toNat = i by omega, ← List.map_take]
    refine r2_inI .fz ?_
    repeat trivial
    refine ite_d (fun hm => ?_) (fun hm => ?_)
    · repeat trivial
      have e : ¬ ns.Nodup := fun h => ((take_nodup hi2).mp (h.sublist (List.take_sublist _ _))).2 hm
      rw [decide_eq_false e] at hk
      exact hk
    · repeat trivial
      exact ⟨⟨_, rfl⟩, rfl, (take_nodup hi2).mpr ⟨hn, hm⟩⟩
  · rintro ds cs' ⟨⟨o, rfl⟩, rfl, hn⟩
    repeat trivial
    rw [List.take_of_length_le (by omega)] at hn
    rw [decide_eq_true hn] at hk
    exact hk
theorem sem_check_place {K : PySem.W.Frag} [Tx K] (E : XK) : ∀ ts cs Kk ke, g_check_place K ts cs Kk ke → WS (ZE E ke) (t_check_place K E) { nx := fun _ cs => Kk dN cs, rt := Kk } (startD N_check_place ts) cs := by
  rintro ts cs Kk ke ⟨x, y, rfl, n, r, rfl, rfl, h1, h2⟩
  unfold t_check_place
  show WS _ _ _ [some (dI n), some (dI r)] _
  repeat trivial
  refine ite_d (fun a => ?_) (fun a => ?_)
  · repeat trivial
    refine ite_nd (fun b => ?_) (fun b => ?_)
    · refine ws_raiseO ?_
      repeat trivial
      exact h2 (by omega)
    · repeat trivial
      exact h1 ⟨a, b⟩
  · repeat trivial
    refine ws_raiseO ?_
    repeat trivial
    exact h2 (by omega)
theorem sem_check_size {K : PySem.W.Frag} [Tx K] (E : XK) : ∀ ts cs Kk ke, g_check_size K ts cs Kk ke → WS (ZE E ke) (t_check_size K E) { nx := fun _ cs => Kk dN cs, rt := Kk } (startD N_check_size ts) cs := by
  rintro ts cs Kk ke ⟨x, rfl, n, rfl, h1, h2, hk⟩
  unfold t_check_size
  show WS _ _ _ [some (dI n)] _
  repeat trivial
  rw [decT h1]
  repeat trivial
  rw [decT h2]
  repeat trivial
theorem sem_Demand_init {K : PySem.W.Frag} [Tx K] (E : XK) : ∀ ts cs Kk ke, g_Demand_init K ts cs Kk ke → WS (ZE E ke) (t_Demand_init K E) { nx := fun _ cs => Kk dN cs, rt := Kk } (startD N_Demand_init ts) cs := by
  rintro ts cs Kk ke ⟨x, y, z, w, rfl, a, r, c, b, rfl, hcs, rfl, rfl, rfl, r0, r1, c0, c1, hk⟩
  unfold t_Demand_init
  show WS _ _ _ [some (dR a), some (dI r), some (dI c), some (modeT K b)] _
  repeat trivial
  refine ⟨_, _, rfl, _, _, rfl, rfl, fun _ => ?_, fun h => absurd ⟨r0, r1⟩ h⟩
  repeat trivial
  rw [decT c0]
  repeat trivial
  rw [decT c1]
  repeat trivial
  obtain ⟨u, hu⟩ := con_mode (K := K) b
  refine ⟨_, [], dS (modeN b), _, u, .fz, cls_mode b, hu, rfl, fun _ => rfl, ?_⟩
  repeat trivial
  simp only [CS.set_set]
  exact hk
theorem sem_Network_init {K : PySem.W.Frag} [Tx K] (E : XK) : ∀ ts cs Kk ke, g_Network_init K ts cs Kk ke → WS (ZE E ke) (t_Network_init K E) { nx := fun _ cs => Kk dN cs, rt := Kk } (startD N_Network_init ts) cs := by
  rintro ts cs Kk ke ⟨x, y, z, rfl, a, n, ls, rfl, hcs, rfl, n0, n1, hz, hl, hok, hk⟩
  unfold t_Network_init
  show WS _ _ _ [some (dR a), some (dI n), some z, none, none] _
  repeat trivial
  refine ⟨_, rfl, n, rfl, n0, n1, ?_⟩
  repeat trivial
  rw [List.length_map]
  refine ite_d (fun h => absurd h (by omega)) (fun _ => ?_)
  repeat trivial
  refine ws_forLp (fun ds => ∃ o p, ds = [some (dR a), some (dI n), some z, o, p]) (isS_of hz) ?_ ⟨_, _, rfl⟩ ?_ ?_
  · repeat trivial
  · rintro t ht ds ⟨o, p, rfl⟩
    obtain ⟨l, hl', rfl⟩ := List.mem_map.mp ht
    repeat trivial
    refine ws_forTp (fun ds => ∃ o p, ds = [some (dR a), some (dI n), some z, o, p]) (ts := l.mem.map dI) ?_ ⟨_, _, rfl⟩ ?_ ?_
    · repeat trivial
    · rintro t ht ds ⟨o, p, rfl⟩
      obtain ⟨q, hq, rfl⟩ := List.mem_map.mp ht
      repeat trivial
      have hr := (hok l hl').rng q hq
      refine ⟨_, _, rfl, n, q, rfl, rfl, fun _ => ?_, fun h => absurd hr h⟩
      exact ⟨⟨_, _, rfl⟩, rfl⟩
    · intro ds h
      exact ⟨h, rfl⟩
  · rintro ds ⟨o, p, rfl⟩
    repeat trivial
    refine rl_tup (isL_ins hz hcs).q ?_
    repeat trivial
    simp only [CS.set_set]
    exact hk
theorem sem_Lot_init {K : PySem.W.Frag} [Tx K] (E : XK) : ∀ ts cs Kk ke, g_Lot_init K ts cs Kk ke → WS (ZE E ke) (t_Lot_init K E) { nx := fun _ cs => Kk dN cs, rt := Kk } (startD N_Lot_init ts) cs := by
  rintro ts cs Kk ke ⟨x, y, z, w, rfl, a, ms, cds, p, rfl, hcs, hy, hz, rfl, ⟨h1, h2, h3, h4, h5, h6, h7, h8, h9, h10⟩, hk⟩
  unfold t_Lot_init
  show WS _ _ _ [some (dR a), some y, some z, some (dI p), none] _
  repeat trivial
  rw [List.length_map]
  refine ite_d (fun h => absurd h (by omega)) (fun _ => ?_)
  repeat trivial
  refine ⟨_, rfl, ms, hy, h3, ?_⟩
  rw [decT h1]
  repeat trivial
  refine ws_forLp (fun ds => ∃ o, ds = [some (dR a), some y, some z, some (dI p), o]) (isS_of hy) ?_ ⟨_, rfl⟩ ?_ ?_
  · repeat trivial
  · rintro t ht ds ⟨o, rfl⟩
    obtain ⟨q, hq, rfl⟩ := List.mem_map.mp ht
    repeat trivial
    rw [decT (h4 q hq).1]
    repeat trivial
    rw [decT (h4 q hq).2]
    repeat trivial
    exact ⟨⟨_, rfl⟩, rfl⟩
  · rintro ds ⟨o, rfl⟩
    refine ws_seq (ws_nx (fun ds cs' => ∃ z' o, ds = [some (dR a), some y, some z', some (dI p), o] ∧ cs' = cs ∧ IsL cs z' (cds.map dI)) ?_ ?_)
    · rcases hz with ⟨rfl, rfl⟩ | hz
      · repeat trivial
        exact ⟨_, _, rfl, rfl, hy⟩
      · refine ws_if (wt_test (w_op (w_var rfl (w_non ?_))))
        have hn : NotNone z := by
          cases hz with
          | fz => constructor
          | cl q => constructor
        refine r2_isN_no hn ?_
        repeat trivial
        exact ⟨_, _, rfl, rfl, hz⟩
    · rintro ds cs' ⟨z', o, rfl, rfl, hz'⟩
      have hc0 : cds.length ≠ 0 := fun e => h6 (List.length_eq_zero_iff.mp e)
      repeat trivial
      rw [List.length_map]
      refine ite_d (fun h => absurd h (by omega)) (fun _ => ?_)
      repeat trivial
      refine ⟨_, rfl, cds, hz', h7, ?_⟩
      rw [decT h5]
      repeat trivial
      refine ws_forLp (fun ds => ∃ o, ds = [some (dR a), some y, some z', some (dI p), o]) (isS_of hz') ?_ ⟨_, rfl⟩ ?_ ?_
      · repeat trivial
      · rintro t ht ds ⟨o, rfl⟩
        obtain ⟨q, hq, rfl⟩ := List.mem_map.mp ht
        repeat trivial
        refine r2_niI hy.q ?_
        rw [decT (h8 q hq)]
        repeat trivial
        exact ⟨⟨_, rfl⟩, rfl⟩
      · rintro ds ⟨o, rfl⟩
        repeat trivial
        rw [decT h9]
        repeat trivial
        rw [decT h10]
        repeat trivial
        refine rl_sortedF hy fun ns hp hso => ?_
        repeat trivial
        refine rl_tup .fz ?_
        repeat trivial
        refine rl_sortedF (isL_ins hz' hcs) fun ns2 hp2 hso2 => ?_
        repeat trivial
        refine rl_tup .fz ?_
        repeat trivial
        simp only [CS.set_set]
        rw [srt_eq hp hso, srt_eq hp2 hso2]
        exact hk
end K63

set_option Elab.async false
set_option linter.all false
set_option maxRecDepth 100000
set_option maxHeartbeats 2000000
set_option autoImplicit false
namespace K63
open PySem PySem.Spec PyProof.Rows L2 S
local macro_rules | `(tactic| trivial) => `(tactic| first
  | with_reducible refine ws_seq ?_ | with_reducible refine ws_set ?_ | with_reducible refine ws_ret ?_ | with_reducible refine ws_retN ?_ | with_reducible refine ws_drop ?_ | with_reducible refine ws_if ?_ | with_reducible refine ws_next ?_ | with_reducible refine ws_asg ?_
  | with_reducible refine ws_fldS ?_ | ((with_reducible apply fldE); (focus first | exact CS.same | assumption); (focus exact Nat.le_of_ble_eq_true (by rfl)); (focus infer_instance); (focus infer_instance))
  | with_reducible refine wt_test ?_ | with_reducible refine wt_B ?_ | with_reducible refine wt_and ?_ | with_reducible refine wt_or ?_ | with_reducible refine wt_not ?_ | with_reducible refine wt_tru ?_
  | ((with_reducible apply w_var); (focus rfl))
  | with_reducible refine w_int ?_ | with_reducible refine w_str ?_ | with_reducible refine w_bl ?_ | with_reducible refine w_non ?_ | with_reducible refine w_ref ?_ | with_reducible refine w_ty ?_
  | with_reducible refine w_op ?_ | with_reducible refine w_un ?_ | with_reducible refine w_chain ?_ | with_reducible refine w_if ?_ | with_reducible refine w_andV ?_ | with_reducible refine w_orV ?_ | with_reducible refine w_notV ?_
  | with_reducible refine wa_cons ?_ | with_reducible refine wa_nil ?_ | with_reducible refine w_tup ?_ | with_reducible refine w_cb ?_
  | with_reducible refine w_fld ?_ | with_reducible refine w_con ?_ | with_reducible refine w_callN0 ?_ | with_reducible refine w_callN ?_
  | with_reducible refine r2_addI ?_ | with_reducible refine r2_subI ?_ | with_reducible refine r2_ltI ?_ | with_reducible refine r2_leI ?_ | with_reducible refine r2_gtI ?_ | with_reducible refine r2_geI ?_ | with_reducible refine r2_eqI ?_ | with_reducible refine r2_neI ?_ | with_reducible refine r2_eqS ?_ | with_reducible refine r2_neS ?_
  | ((with_reducible apply r2_ix); (focus first | exact .tp | exact .fz | exact .sc | exact .cl CS.same | exact .cl (by assumption) | exact IsL.q (by assumption)); (focus rfl))
  | with_reducible refine w_sl ?_ | with_reducible refine wo_none ?_ | with_reducible refine wo_some ?_
  | ((with_reducible apply rl_len); (focus first | exact .tp | exact .fz | exact .sc | exact .cl CS.same | exact .cl (by assumption) | exact IsL.q (by assumption)))
  | ((with_reducible apply fwE); (focus first | exact .fz | exact .cl CS.same | exact .cl (by assumption)); (focus rfl); (focus infer_instance); (focus infer_instance))
  | with_reducible refine rl_int ?_ | with_reducible refine rl_boolB ?_
  | with_reducible refine r2_isN_yes ?_ | with_reducible refine r2_notN_no ?_ | ((with_reducible apply r2_isN_no); (focus constructor)) | ((with_reducible apply r2_notN_yes); (focus constructor))
  | ((with_reducible apply rl_isY (b := true)); (focus first | exact .int _ | exact .str _ | exact .bl _ | exact .non | exact .tup _ | exact .lst .fz | exact .lst (by assumption)); (focus rfl))
  | ((with_reducible apply rl_isY (b := false)); (focus first | exact .int _ | exact .str _ | exact .bl _ | exact .non | exact .tup _ | exact .lst .fz | exact .lst (by assumption)); (focus rfl))
  | with_reducible refine w_bm ?_ | (refine ⟨tyw_list (ts := _) (by first | exact .cl CS.same | exact .cl (by assumption) | exact .fz), ?_⟩)
  | ((with_reducible apply wg_tup); (focus rfl)) | with_reducible refine wgs_cons ?_ | with_reducible refine wgs_nil ?_
  | with_reducible refine wg_name ?_
  | with_reducible refine wg_subLs ?_ | ((with_reducible apply subw); (focus first | exact CS.same | assumption); (focus rfl))
  | with_reducible refine ite_t ?_ | with_reducible refine ite_f ?_ | with_reducible refine ite_nt ?_ | with_reducible refine ite_nf ?_
  | with_reducible refine ⟨_, rfl, ?_⟩
  | refine ⟨Nat.le_of_ble_eq_true (by rfl), ?_⟩ | with_reducible refine ⟨_, tru_B, ?_⟩ | with_reducible refine ⟨_, tru_I, ?_⟩ | with_reducible refine ⟨_, tru_N, ?_⟩)
local macro_rules | `(tactic| decreasing_trivial) => `(tactic| first
  | with_reducible refine ws_seq ?_ | with_reducible refine ws_set ?_ | with_reducible refine ws_ret ?_ | with_reducible refine ws_retN ?_ | with_reducible refine ws_drop ?_ | with_reducible refine ws_next ?_ | with_reducible refine ws_asg ?_
  | with_reducible refine ws_fldS ?_ | ((with_reducible apply fldE); (focus first | exact CS.same | assumption); (focus exact Nat.le_of_ble_eq_true (by rfl)); (focus infer_instance); (focus infer_instance))
  | with_reducible refine wt_test ?_ | with_reducible refine wt_B ?_ | with_reducible refine wt_and ?_ | with_reducible refine wt_or ?_ | with_reducible refine wt_not ?_ | with_reducible refine wt_tru ?_
  | ((with_reducible apply w_var); (focus rfl))
  | with_reducible refine w_int ?_ | with_reducible refine w_str ?_ | with_reducible refine w_bl ?_ | with_reducible refine w_non ?_ | with_reducible refine w_ref ?_ | with_reducible refine w_ty ?_
  | with_reducible refine w_op ?_ | with_reducible refine w_un ?_ | with_reducible refine w_chain ?_ | with_reducible refine w_if ?_ | with_reducible refine w_andV ?_ | with_reducible refine w_orV ?_ | with_reducible refine w_notV ?_
  | with_reducible refine wa_cons ?_ | with_reducible refine wa_nil ?_ | with_reducible refine w_tup ?_ | with_reducible refine w_cb ?_
  | with_reducible refine w_fld ?_ | with_reducible refine w_con ?_ | with_reducible refine w_callN0 ?_ | with_reducible refine w_callN ?_
  | with_reducible refine r2_addI ?_ | with_reducible refine r2_subI ?_ | with_reducible refine r2_ltI ?_ | with_reducible refine r2_leI ?_ | with_reducible refine r2_gtI ?_ | with_reducible refine r2_geI ?_ | with_reducible refine r2_eqI ?_ | with_reducible refine r2_neI ?_ | with_reducible refine r2_eqS ?_ | with_reducible refine r2_neS ?_
  | ((with_reducible apply r2_ix); (focus first | exact .tp | exact .fz | exact .sc | exact .cl CS.same | exact .cl (by assumption) | exact IsL.q (by assumption)); (focus rfl))
  | with_reducible refine w_sl ?_ | with_reducible refine wo_none ?_ | with_reducible refine wo_some ?_
  | ((with_reducible apply rl_len); (focus first | exact .tp | exact .fz | exact .sc | exact .cl CS.same | exact .cl (by assumption) | exact IsL.q (by assumption)))
  | ((with_reducible apply fwE); (focus first | exact .fz | exact .cl CS.same | exact .cl (by assumption)); (focus rfl); (focus infer_instance); (focus infer_instance))
  | with_reducible refine rl_int ?_ | with_reducible refine rl_boolB ?_
  | with_reducible refine r2_isN_yes ?_ | with_reducible refine r2_notN_no ?_ | ((with_reducible apply r2_isN_no); (focus constructor)) | ((with_reducible apply r2_notN_yes); (focus constructor))
  | ((with_reducible apply rl_isY (b := true)); (focus first | exact .int _ | exact .str _ | exact .bl _ | exact .non | exact .tup _ | exact .lst .fz | exact .lst (by assumption)); (focus rfl))
  | ((with_reducible apply rl_isY (b := false)); (focus first | exact .int _ | exact .str _ | exact .bl _ | exact .non | exact .tup _ | exact .lst .fz | exact .lst (by assumption)); (focus rfl))
  | with_reducible refine w_bm ?_ | (refine ⟨tyw_list (ts := _) (by first | exact .cl CS.same | exact .cl (by assumption) | exact .fz), ?_⟩)
  | ((with_reducible apply wg_tup); (focus rfl)) | with_reducible refine wgs_cons ?_ | with_reducible refine wgs_nil ?_
  | with_reducible refine wg_name ?_
  | with_reducible refine wg_subLs ?_ | ((with_reducible apply subw); (focus first | exact CS.same | assumption); (focus rfl))
  | with_reducible refine ite_t ?_ | with_reducible refine ite_f ?_ | with_reducible refine ite_nt ?_ | with_reducible refine ite_nf ?_
  | with_reducible refine ⟨_, rfl, ?_⟩
  | refine ⟨Nat.le_of_ble_eq_true (by rfl), ?_⟩ | with_reducible refine ⟨_, tru_B, ?_⟩ | with_reducible refine ⟨_, tru_I, ?_⟩ | with_reducible refine ⟨_, tru_N, ?_⟩)
theorem its_rng {l : LotD} (h : l.Ok 12) : (∀ z ∈ l.mem, 0 ≤ z ∧ z < 1000000000000) ∧ (∀ z ∈ l.cand, 0 ≤ z ∧ z < 1000000000000) :=
  ⟨fun z hz => ⟨(h.rng z hz).1, by have := (h.rng z hz).2; omega⟩, fun z hz => ⟨(h.cand_rng z hz).1, by have := (h.cand_rng z hz).2; omega⟩⟩
theorem joins_len {ms : List Int} (h : ms.length ≤ 12) (hr : ∀ z ∈ ms, 0 ≤ z ∧ z < 12) : (Txt.join " " (ms.map txI)).length ≤ 200 := by
  rw [TL.len_tl, tl_j, tl_sp]
  have q := joinL_len (S := [32]) 12 (ps := (ms.map txI).map TL.tl) fun p hp => by
    obtain ⟨w, hw, rfl⟩ := List.mem_map.mp hp
    obtain ⟨z, hz, rfl⟩ := List.mem_map.mp hw
    have := txI_len (k := 12) (hr z hz).1 (by decide) (by have := (hr z hz).2; omega)
    rwa [TL.len_tl] at this
  have e : ([32] : List Nat).length = 1 := rfl
  rw [List.length_map, List.length_map, e] at q
  omega
theorem sem_Lot_str {K : PySem.W.Frag} [Tx K] (E : XK) : ∀ ts cs Kk ke, g_Lot_str K ts cs Kk ke → WS (ZE E ke) (t_Lot_str K E) { nx := fun _ cs => Kk dN cs, rt := Kk } (startD N_Lot_str ts) cs := by
  rintro ts cs Kk ke ⟨x, rfl, l, rfl, hl, hk⟩
  have hr := its_rng hl
  have l1 := hl.mem_len
  have l2 := hl.cand_len
  have j1 := joins_len l1 hl.rng
  have j2 := joins_len l2 hl.cand_rng
  have pl : (txI l.price).length ≤ 12 := txI_len hl.p0 (by decide) (by have := hl.p1; omega)
  unfold t_Lot_str
  show WS _ _ _ [some (lotT K l), none, none] _
  refine ws_seq (ws_set (w_lst (wa_cons (w_joinT (l := l.mem) (Nat.le_of_ble_eq_true rfl) (by decide) (by omega) hr.1 ?_))))
  repeat trivial
  intro p hp
  refine ws_seq (ws_nx (fun ds cs' => ds = [some (lotT K l), some (dR p), none] ∧ cs' = cs.set p (.lst (([Txt.join " " (l.mem.map txI)] ++ (if l.cand = l.mem then [] else ["heads " ++ Txt.join " " (l.cand.map txI)])).map dS))) ?_ ?_)
  · repeat trivial
    refine r2_neIT ?_
    repeat trivial
    refine ite_nd (fun h => ?_) (fun h => ?_)
    · repeat trivial
      refine w_joinT (l := l.cand) (Nat.le_of_ble_eq_true rfl) (by decide) (by omega) hr.2 ?_
      repeat trivial
      refine ⟨rfl, ?_⟩
      refine r2_addS (Nat.le_trans (show 6 + _ ≤ 1000 by omega) (by decide)) ?_
      repeat trivial
      refine rm_append CS.same (by show 1 < _; decide) ?_
      exact ⟨rfl, by rw [if_neg h, CS.set_set]; rfl⟩
    · repeat trivial
      exact ⟨rfl, by rw [if_pos h]; rfl⟩
  · rintro ds cs' ⟨rfl, rfl⟩
    have hlen : ([Txt.join " " (l.mem.map txI)] ++ (if l.cand = l.mem then [] else [("heads " : Str) ++ Txt.join " " (l.cand.map txI)])).length ≤ 2 := by split <;> simp
    have hel : ∀ y ∈ ([Txt.join " " (l.mem.map txI)] ++ (if l.cand = l.mem then [] else [("heads " : Str) ++ Txt.join " " (l.cand.map txI)])), y.length ≤ 1000 := by
      intro y hy
      have hh : (("heads " : Str) ++ Txt.join " " (l.cand.map txI)).length ≤ 1000 := by
        rw [Str.length_append]
        exact Nat.le_trans (Nat.add_le_add (show ("heads " : Str).length ≤ 10 by decide) j2) (by decide)
      rcases List.mem_append.mp hy with hy | hy
      · rw [List.mem_singleton.mp hy]; omega
      · split at hy
        · cases hy
        · rw [List.mem_singleton.mp hy]; exact hh
    generalize hpp : ([Txt.join " " (l.mem.map txI)] ++ (if l.cand = l.mem then [] else [("heads " : Str) ++ Txt.join " " (l.cand.map txI)])) = parts at hlen hel
    have fin : ∀ parts2 : List Str, lotTxt l = Txt.join " " parts2 → parts2.length ≤ 3 → (∀ y ∈ parts2, y.length ≤ 1000) → WS (ZE E ke) (tRet (tM1 (rJoin K) (tC (.str " ")) (tVar 1))) { nx := fun _ cs => Kk dN cs, rt := Kk } [some (lotT K l), some (dR p), none] (cs.set p (.lst (parts2.map dS))) := fun parts2 e h1 h2 => by
      refine ws_ret (w_frz (w_m1 ?_))
      repeat trivial
      refine rm_join (.cl CS.same) (join_bound (by omega) h2 (by decide)) ⟨_, _, frz_less (cs' := cs) (fun b c hb => by rw [CS.ne (CS.ne_of hb hp)]; exact hb), ?_⟩
      rw [← e]
      exact hk
    refine ws_seq (ws_if ?_)
    repeat trivial
    refine ite_nd (fun h => ?_) (fun h => ?_)
    · repeat trivial
      refine rl_strI (log_small hl.p0 (by have := hl.p1; omega)) ?_
      repeat trivial
      refine r2_addS (Nat.le_trans (show 6 + _ ≤ 1000 from Nat.le_trans (Nat.add_le_add_left pl 6) (by decide)) (by decide)) ?_
      repeat trivial
      refine rm_append CS.same (by rw [List.length_map]; exact Nat.lt_of_le_of_lt hlen (by decide)) ?_
      rw [CS.set_set]
      have q := fin (parts ++ [("price " : Str) ++ txI l.price]) (by unfold lotTxt; rw [← hpp, if_neg h]) (by rw [List.length_append]; exact Nat.add_le_add hlen (Nat.le_refl 1)) (fun y hy => by
        rcases List.mem_append.mp hy with hy | hy
        · exact hel y hy
        · rw [List.mem_singleton.mp hy, Str.length_append]
          exact Nat.le_trans (Nat.add_le_add (show ("price " : Str).length ≤ 10 by decide) pl) (by decide))
      rw [List.map_append] at q
      exact q
    · refine ws_next ?_
      exact fin parts (by unfold lotTxt; rw [← hpp, if_pos h, List.append_nil]) (by omega) hel
end K63

set_option Elab.async false
set_option linter.all false
set_option maxRecDepth 100000
set_option maxHeartbeats 2000000
set_option autoImplicit false
namespace K63
open PySem PySem.Spec PyProof.Rows L2 S
local macro_rules | `(tactic| trivial) => `(tactic| first
  | with_reducible refine ws_seq ?_ | with_reducible refine ws_set ?_ | with_reducible refine ws_ret ?_ | with_reducible refine ws_retN ?_ | with_reducible refine ws_drop ?_ | with_reducible refine ws_if ?_ | with_reducible refine ws_next ?_ | with_reducible refine ws_asg ?_
  | with_reducible refine ws_fldS ?_ | ((with_reducible apply fldE); (focus first | exact CS.same | assumption); (focus exact Nat.le_of_ble_eq_true (by rfl)); (focus infer_instance); (focus infer_instance))
  | with_reducible refine wt_test ?_ | with_reducible refine wt_B ?_ | with_reducible refine wt_and ?_ | with_reducible refine wt_or ?_ | with_reducible refine wt_not ?_ | with_reducible refine wt_tru ?_
  | ((with_reducible apply w_var); (focus rfl))
  | with_reducible refine w_int ?_ | with_reducible refine w_str ?_ | with_reducible refine w_bl ?_ | with_reducible refine w_non ?_ | with_reducible refine w_ref ?_ | with_reducible refine w_ty ?_
  | with_reducible refine w_op ?_ | with_reducible refine w_un ?_ | with_reducible refine w_chain ?_ | with_reducible refine w_if ?_ | with_reducible refine w_andV ?_ | with_reducible refine w_orV ?_ | with_reducible refine w_notV ?_
  | with_reducible refine wa_cons ?_ | with_reducible refine wa_nil ?_ | with_reducible refine w_tup ?_ | with_reducible refine w_cb ?_
  | with_reducible refine w_fld ?_ | with_reducible refine w_con ?_ | with_reducible refine w_callN0 ?_ | with_reducible refine w_callN ?_
  | with_reducible refine r2_addI ?_ | with_reducible refine r2_subI ?_ | with_reducible refine r2_ltI ?_ | with_reducible refine r2_leI ?_ | with_reducible refine r2_gtI ?_ | with_reducible refine r2_geI ?_ | with_reducible refine r2_eqI ?_ | with_reducible refine r2_neI ?_ | with_reducible refine r2_eqS ?_ | with_reducible refine r2_neS ?_
  | ((with_reducible apply r2_ix); (focus first | exact .tp | exact .fz | exact .sc | exact .cl CS.same | exact .cl (by assumption) | exact IsL.q (by assumption)); (focus rfl))
  | with_reducible refine w_sl ?_ | with_reducible refine wo_none ?_ | with_reducible refine wo_some ?_
  | ((with_reducible apply rl_len); (focus first | exact .tp | exact .fz | exact .sc | exact .cl CS.same | exact .cl (by assumption) | exact IsL.q (by assumption)))
  | ((with_reducible apply fwE); (focus first | exact .fz | exact .cl CS.same | exact .cl (by assumption)); (focus rfl); (focus infer_instance); (focus infer_instance))
  | with_reducible refine rl_int ?_ | with_reducible refine rl_boolB ?_
  | with_reducible refine r2_isN_yes ?_ | with_reducible refine r2_notN_no ?_ | ((with_reducible apply r2_isN_no); (focus constructor)) | ((with_reducible apply r2_notN_yes); (focus constructor))
  | ((with_reducible apply rl_isY (b := true)); (focus first | exact .int _ | exact .str _ | exact .bl _ | exact .non | exact .tup _ | exact .lst .fz | exact .lst (by assumption)); (focus rfl))
  | ((with_reducible apply rl_isY (b := false)); (focus first | exact .int _ | exact .str _ | exact .bl _ | exact .non | exact .tup _ | exact .lst .fz | exact .lst (by assumption)); (focus rfl))
  | with_reducible refine w_bm ?_ | (refine ⟨tyw_list (ts := _) (by first | exact .cl CS.same | exact .cl (by assumption) | exact .fz), ?_⟩)
  | ((with_reducible apply wg_tup); (focus rfl)) | with_reducible refine wgs_cons ?_ | with_reducible refine wgs_nil ?_
  | with_reducible refine wg_name ?_
  | with_reducible refine wg_subLs ?_ | ((with_reducible apply subw); (focus first | exact CS.same | assumption); (focus rfl))
  | with_reducible refine ite_t ?_ | with_reducible refine ite_f ?_ | with_reducible refine ite_nt ?_ | with_reducible refine ite_nf ?_
  | with_reducible refine ⟨_, rfl, ?_⟩
  | refine ⟨Nat.le_of_ble_eq_true (by rfl), ?_⟩ | with_reducible refine ⟨_, tru_B, ?_⟩ | with_reducible refine ⟨_, tru_I, ?_⟩ | with_reducible refine ⟨_, tru_N, ?_⟩)
local macro_rules | `(tactic| decreasing_trivial) => `(tactic| first
  | with_reducible refine ws_seq ?_ | with_reducible refine ws_set ?_ | with_reducible refine ws_ret ?_ | with_reducible refine ws_retN ?_ | with_reducible refine ws_drop ?_ | with_reducible refine ws_next ?_ | with_reducible refine ws_asg ?_
  | with_reducible refine ws_fldS ?_ | ((with_reducible apply fldE); (focus first | exact CS.same | assumption); (focus exact Nat.le_of_ble_eq_true (by rfl)); (focus infer_instance); (focus infer_instance))
  | with_reducible refine wt_test ?_ | with_reducible refine wt_B ?_ | with_reducible refine wt_and ?_ | with_reducible refine wt_or ?_ | with_reducible refine wt_not ?_ | with_reducible refine wt_tru ?_
  | ((with_reducible apply w_var); (focus rfl))
  | with_reducible refine w_int ?_ | with_reducible refine w_str ?_ | with_reducible refine w_bl ?_ | with_reducible refine w_non ?_ | with_reducible refine w_ref ?_ | with_reducible refine w_ty ?_
  | with_reducible refine w_op ?_ | with_reducible refine w_un ?_ | with_reducible refine w_chain ?_ | with_reducible refine w_if ?_ | with_reducible refine w_andV ?_ | with_reducible refine w_orV ?_ | with_reducible refine w_notV ?_
  | with_reducible refine wa_cons ?_ | with_reducible refine wa_nil ?_ | with_reducible refine w_tup ?_ | with_reducible refine w_cb ?_
  | with_reducible refine w_fld ?_ | with_reducible refine w_con ?_ | with_reducible refine w_callN0 ?_ | with_reducible refine w_callN ?_
  | with_reducible refine r2_addI ?_ | with_reducible refine r2_subI ?_ | with_reducible refine r2_ltI ?_ | with_reducible refine r2_leI ?_ | with_reducible refine r2_gtI ?_ | with_reducible refine r2_geI ?_ | with_reducible refine r2_eqI ?_ | with_reducible refine r2_neI ?_ | with_reducible refine r2_eqS ?_ | with_reducible refine r2_neS ?_
  | ((with_reducible apply r2_ix); (focus first | exact .tp | exact .fz | exact .sc | exact .cl CS.same | exact .cl (by assumption) | exact IsL.q (by assumption)); (focus rfl))
  | with_reducible refine w_sl ?_ | with_reducible refine wo_none ?_ | with_reducible refine wo_some ?_
  | ((with_reducible apply rl_len); (focus first | exact .tp | exact .fz | exact .sc | exact .cl CS.same | exact .cl (by assumption) | exact IsL.q (by assumption)))
  | ((with_reducible apply fwE); (focus first | exact .fz | exact .cl CS.same | exact .cl (by assumption)); (focus rfl); (focus infer_instance); (focus infer_instance))
  | with_reducible refine rl_int ?_ | with_reducible refine rl_boolB ?_
  | with_reducible refine r2_isN_yes ?_ | with_reducible refine r2_notN_no ?_ | ((with_reducible apply r2_isN_no); (focus constructor)) | ((with_reducible apply r2_notN_yes); (focus constructor))
  | ((with_reducible apply rl_isY (b := true)); (focus first | exact .int _ | exact .str _ | exact .bl _ | exact .non | exact .tup _ | exact .lst .fz | exact .lst (by assumption)); (focus rfl))
  | ((with_reducible apply rl_isY (b := false)); (focus first | exact .int _ | exact .str _ | exact .bl _ | exact .non | exact .tup _ | exact .lst .fz | exact .lst (by assumption)); (focus rfl))
  | with_reducible refine w_bm ?_ | (refine ⟨tyw_list (ts := _) (by first | exact .cl CS.same | exact .cl (by assumption) | exact .fz), ?_⟩)
  | ((with_reducible apply wg_tup); (focus rfl)) | with_reducible refine wgs_cons ?_ | with_reducible refine wgs_nil ?_
  | with_reducible refine wg_name ?_
  | with_reducible refine wg_subLs ?_ | ((with_reducible apply subw); (focus first | exact CS.same | assumption); (focus rfl))
  | with_reducible refine ite_t ?_ | with_reducible refine ite_f ?_ | with_reducible refine ite_nt ?_ | with_reducible refine ite_nf ?_
  | with_reducible refine ⟨_, rfl, ?_⟩
  | refine ⟨Nat.le_of_ble_eq_true (by rfl), ?_⟩ | with_reducible refine ⟨_, tru_B, ?_⟩ | with_reducible refine ⟨_, tru_I, ?_⟩ | with_reducible refine ⟨_, tru_N, ?_⟩)
theorem sem_law_lot_text {K : PySem.W.Frag} [Tx K] (E : XK) : ∀ ts cs Kk ke, g_law_lot_text K ts cs Kk ke → WS (ZE E ke) (t_law_lot_text K E) { nx := fun _ cs => Kk dN cs, rt := Kk } (startD N_law_lot_text ts) cs := by
  rintro ts cs Kk ke ⟨x, rfl, r, rfl, hro, hk⟩
  have hl := hro.lot
  have hr := its_rng hl
  have l1 := hl.mem_len
  have l2 := hl.cand_len
  have j1 := joins_len l1 hl.rng
  have j2 := joins_len l2 hl.cand_rng
  have pl : (txI r.c).length ≤ 12 := txI_len hl.p0 (by decide) (by have h9 : r.c ≤ 1000000000 := hl.p1; show r.c < 1000000000000; omega)
  rw [← lawTxt_eq hl] at hk
  unfold t_law_lot_text
  unfold rowT
  show WS _ _ _ [some (dT [dL (r.g.map dI), dL (r.m.map dI), dI r.c]), none, none, none, none] _
  repeat trivial
  refine rl_sortedF .fz fun ns hp hs => ?_
  obtain rfl := srt_eq hp hs
  repeat trivial
  refine rl_sortedF .fz fun ns2 hp2 hs2 => ?_
  obtain rfl := srt_eq hp2 hs2
  repeat trivial
  refine w_joinL (l := r.lot.mem) (Nat.le_of_ble_eq_true rfl) (by decide) (by omega) hr.1 ?_
  repeat decreasing_trivial
  refine ⟨rfl, ?_⟩
  refine ws_seq ?_
  have e1 : ∀ t : Str, t.length ≤ 700 → t.length + 20 ≤ sizeLine := fun t h => Nat.le_trans (show t.length + 20 ≤ 1000 by omega) (by decide)
  refine ws_nx (fun ds cs' => cs' = cs ∧ ∃ t : Str, t.length ≤ 600 ∧ t = (if r.lot.cand = r.lot.mem then Txt.join " " (r.lot.mem.map txI) else Txt.join " " (r.lot.mem.map txI) ++ " heads " ++ Txt.join " " (r.lot.cand.map txI)) ∧ ∃ a b o, ds = [some (dT [dL (r.g.map dI), dL (r.m.map dI), dI r.c]), a, b, some (dS t), o]) ?_ ?_
  · repeat trivial
    refine r2_neIL (a := srt r.m) (b := srt r.g) .fz .fz ?_
    repeat trivial
    have h7 : (" heads " : Str).length = 7 := rfl
    refine ite_nd (fun h => ?_) (fun h => ?_)
    · repeat trivial
      refine r2_addS (Nat.le_trans (Nat.add_le_add j1 (Nat.le_of_eq h7)) (by decide)) ?_
      refine w_joinL (l := r.lot.cand) (Nat.le_of_ble_eq_true rfl) (by decide) (by omega) hr.2 ?_
      repeat decreasing_trivial
      refine ⟨rfl, ?_⟩
      have h8 : (Txt.join " " (r.lot.mem.map txI) ++ (" heads " : Str)).length ≤ 207 := by rw [Str.length_append]; exact Nat.add_le_add j1 (Nat.le_of_eq h7)
      refine r2_addS (Nat.le_trans (Nat.add_le_add h8 j2) (by decide)) ?_
      repeat trivial
      refine ⟨rfl, _, ?_, (if_neg h).symm, _, _, _, rfl⟩
      rw [Str.length_append]
      omega
    · refine ws_next ⟨rfl, _, ?_, (if_pos h).symm, _, _, _, rfl⟩
      omega
  · rintro ds cs' ⟨rfl, t, htl, ht, a, b, o, rfl⟩
    have h7 : (" price " : Str).length = 7 := rfl
    refine ws_seq (ws_if ?_)
    repeat trivial
    refine ite_nd (fun h => ?_) (fun h => ?_)
    · repeat trivial
      refine r2_addS (Nat.le_trans (Nat.add_le_add htl (Nat.le_of_eq h7)) (by decide)) ?_
      repeat trivial
      refine rl_strI (log_small hl.p0 (by have h9 : r.c ≤ 1000000000 := hl.p1; show r.c < 1000000000000; omega)) ?_
      repeat trivial
      have h8 : (t ++ (" price " : Str)).length ≤ 607 := by rw [Str.length_append]; exact Nat.add_le_add htl (Nat.le_of_eq h7)
      refine r2_addS (Nat.le_trans (Nat.add_le_add h8 pl) (by decide)) ?_
      repeat trivial
      have e : lawTxt r.lot = t ++ " price " ++ txI r.c := by
        unfold lawTxt
        rw [ht]
        exact if_neg h
      rw [e] at hk
      exact hk
    · repeat trivial
      have e : lawTxt r.lot = t := by
        unfold lawTxt
        rw [ht]
        exact if_pos h
      rw [e] at hk
      exact hk
theorem str_nil {w : Str} : w = "" ↔ w.length = 0 := by
  constructor
  · rintro rfl; rfl
  · intro h
    exact TL.ext_tl ((TL.len0_tl w).mp h)
theorem sign0 {c : Nat} : (⟨#[c]⟩ : Str) = "0" ↔ c = 48 := by
  constructor
  · intro h
    have q := congrArg TL.tl h
    have q2 : [c] = [48] := q
    simpa using q2
  · rintro rfl; rfl
theorem sem_number_in {K : PySem.W.Frag} [Tx K] (E : XK) : ∀ ts cs Kk ke, g_number_in K ts cs Kk ke → WS (ZE E ke) (t_number_in K E) { nx := fun _ cs => Kk dN cs, rt := Kk } (startD N_number_in ts) cs := by
  rintro ts cs Kk ke ⟨x, y, z, rfl, w, l, m, rfl, rfl, rfl, hw, hk⟩
  have hw2 : w.length ≤ sizeLine := Nat.le_trans hw (by decide)
  unfold t_number_in
  show WS _ _ _ [some (dS w), some (dI l), some (dI m), none, none] _
  unfold numIn at hk
  repeat trivial
  refine ite_d (fun h => ?_) (fun h => ?_)
  · repeat trivial
    rw [if_pos (.inl (str_nil.mp h))] at hk
    exact hk
  repeat trivial
  refine rl_lenS hw2 ?_
  repeat trivial
  refine ite_d (fun h2 => ?_) (fun h2 => ?_)
  · repeat trivial
    rw [if_pos (.inr (by omega))] at hk
    exact hk
  have h0 : w.length ≠ 0 := fun e => h (str_nil.mpr e)
  rw [if_neg (by omega)] at hk
  refine ws_next (ws_seq (ws_forS (w_var rfl ⟨w, rfl, fun i ds cs' => cs' = cs ∧ (∃ o, ds = [some (dS w), some (dI l), some (dI m), o, none]) ∧ (w.cps.toList.take i).all (fun c => decide (c ∈ digs.cps.toList)) = true, ⟨rfl, ⟨_, rfl⟩, rfl⟩, ?_, ?_⟩)))
  · rintro i c ds cs' hc ⟨rfl, ⟨o, rfl⟩, hal⟩
    repeat trivial
    refine r2_niG ?_
    repeat trivial
    refine ite_nd (fun hn => ?_) (fun hn => ?_)
    · repeat trivial
      rw [if_pos] at hk
      · exact hk
      · rw [← Bool.not_eq_true]
        intro hall
        exact hn (of_decide_eq_true (List.all_eq_true.mp hall c (List.mem_of_getElem? hc)))
    · repeat trivial
      refine ⟨rfl, ⟨_, rfl⟩, ?_⟩
      rw [List.take_succ, hc, List.all_append, hal]
      exact (show ([c].all fun c => decide (c ∈ digs.cps.toList)) = true from by rw [List.all_cons, List.all_nil, Bool.and_true]; exact decide_eq_true hn)
  · rintro ds cs' ⟨rfl, ⟨o, rfl⟩, hal⟩
    rw [show w.cps.toList.take w.cps.size = w.cps.toList from List.take_of_length_le (by simp)] at hal
    rw [if_neg (by rw [hal]; simp)] at hk
    have hw0 : w.cps.toList ≠ [] := fun e => h0 (by rw [len_ofNat, e]; rfl)
    obtain ⟨c0, rst, ec⟩ := List.exists_cons_of_ne_nil hw0
    have hdig : ∀ c ∈ w.cps.toList, 48 ≤ c ∧ c ≤ 57 := fun c hc => mem_digs.mp (of_decide_eq_true (List.all_eq_true.mp hal c hc))
    have hint : PySem.intText? w = some ((NumText.digitsVal w.cps.toList : Nat) : Int) := intText_digits hdig hw0 (by omega)
    rw [hint] at hk
    repeat trivial
    refine r2_ixS (c := c0) hw2 (L2.atI_nat (xs := w.cps.toList) (j := 0) (by rw [ec]; rfl)) ?_
    repeat trivial
    have tail : (¬ (w.cps.toList[0]? = some 48 ∧ 1 < w.length)) → WS (ZE E ke) (tSeq (tAsg (tCB rIntA (tCons (tVar 0) tNil)) (gName 4)) (tSeq (tIfS (tOr (tTest (tOp rLtI (tVar 4) (tVar 1))) (tTest (tOp rGtI (tVar 4) (tVar 2)))) (tRet (tC .non)) tNext) (tRet (tVar 4)))) { nx := fun _ cs => Kk dN cs, rt := Kk } [some (dS w), some (dI l), some (dI m), o, none] cs' := fun hz => by
      rw [if_neg hz] at hk
      repeat trivial
      refine rl_intS hint (by omega) ?_
      generalize ((NumText.digitsVal w.cps.toList : Nat) : Int) = v at hk
      dsimp only at hk
      repeat trivial
      refine ite_d (fun h3 => ?_) (fun h3 => ?_)
      · repeat trivial
        rw [if_pos (.inl h3)] at hk
        exact hk
      repeat trivial
      refine ite_d (fun h4 => ?_) (fun h4 => ?_)
      · repeat trivial
        rw [if_pos (.inr h4)] at hk
        exact hk
      repeat trivial
      rw [if_neg (by omega)] at hk
      exact hk
    refine ite_d (fun h3 => ?_) (fun h3 => ?_)
    · repeat trivial
      refine rl_lenS hw2 ?_
      repeat trivial
      refine ite_d (fun h4 => ?_) (fun h4 => ?_)
      · repeat trivial
        rw [if_pos] at hk
        · exact hk
        · exact ⟨by rw [ec, sign0.mp h3]; rfl, by omega⟩
      · refine ws_next (tail fun hz => h4 (by have := hz.2; omega))
    · refine ite_f (ws_next (tail fun hz => h3 (sign0.mpr ?_)))
      have := hz.1
      rw [ec] at this
      simpa using this
end K63

set_option Elab.async false
set_option linter.all false
set_option maxRecDepth 100000
set_option maxHeartbeats 2000000
set_option autoImplicit false
namespace K63
open PySem PySem.Spec PyProof.Rows L2 S
local macro_rules | `(tactic| trivial) => `(tactic| first
  | with_reducible refine ws_seq ?_ | with_reducible refine ws_set ?_ | with_reducible refine ws_ret ?_ | with_reducible refine ws_retN ?_ | with_reducible refine ws_drop ?_ | with_reducible refine ws_if ?_ | with_reducible refine ws_next ?_ | with_reducible refine ws_asg ?_
  | with_reducible refine ws_fldS ?_ | ((with_reducible apply fldE); (focus first | exact CS.same | assumption); (focus exact Nat.le_of_ble_eq_true (by rfl)); (focus infer_instance); (focus infer_instance))
  | with_reducible refine wt_test ?_ | with_reducible refine wt_B ?_ | with_reducible refine wt_and ?_ | with_reducible refine wt_or ?_ | with_reducible refine wt_not ?_ | with_reducible refine wt_tru ?_
  | ((with_reducible apply w_var); (focus rfl))
  | with_reducible refine w_int ?_ | with_reducible refine w_str ?_ | with_reducible refine w_bl ?_ | with_reducible refine w_non ?_ | with_reducible refine w_ref ?_ | with_reducible refine w_ty ?_
  | with_reducible refine w_op ?_ | with_reducible refine w_un ?_ | with_reducible refine w_chain ?_ | with_reducible refine w_if ?_ | with_reducible refine w_andV ?_ | with_reducible refine w_orV ?_ | with_reducible refine w_notV ?_
  | with_reducible refine wa_cons ?_ | with_reducible refine wa_nil ?_ | with_reducible refine w_tup ?_ | with_reducible refine w_cb ?_
  | with_reducible refine w_fld ?_ | with_reducible refine w_con ?_ | with_reducible refine w_callN0 ?_ | with_reducible refine w_callN ?_
  | with_reducible refine r2_addI ?_ | with_reducible refine r2_subI ?_ | with_reducible refine r2_ltI ?_ | with_reducible refine r2_leI ?_ | with_reducible refine r2_gtI ?_ | with_reducible refine r2_geI ?_ | with_reducible refine r2_eqI ?_ | with_reducible refine r2_neI ?_ | with_reducible refine r2_eqS ?_ | with_reducible refine r2_neS ?_
  | ((with_reducible apply r2_ix); (focus first | exact .tp | exact .fz | exact .sc | exact .cl CS.same | exact .cl (by assumption) | exact IsL.q (by assumption)); (focus rfl))
  | with_reducible refine w_sl ?_ | with_reducible refine wo_none ?_ | with_reducible refine wo_some ?_
  | ((with_reducible apply rl_len); (focus first | exact .tp | exact .fz | exact .sc | exact .cl CS.same | exact .cl (by assumption) | exact IsL.q (by assumption)))
  | ((with_reducible apply fwE); (focus first | exact .fz | exact .cl CS.same | exact .cl (by assumption)); (focus rfl); (focus infer_instance); (focus infer_instance))
  | with_reducible refine rl_int ?_ | with_reducible refine rl_boolB ?_
  | with_reducible refine r2_isN_yes ?_ | with_reducible refine r2_notN_no ?_ | ((with_reducible apply r2_isN_no); (focus constructor)) | ((with_reducible apply r2_notN_yes); (focus constructor))
  | ((with_reducible apply rl_isY (b := true)); (focus first | exact .int _ | exact .str _ | exact .bl _ | exact .non | exact .tup _ | exact .lst .fz | exact .lst (by assumption)); (focus rfl))
  | ((with_reducible apply rl_isY (b := false)); (focus first | exact .int _ | exact .str _ | exact .bl _ | exact .non | exact .tup _ | exact .lst .fz | exact .lst (by assumption)); (focus rfl))
  | with_reducible refine w_bm ?_ | (refine ⟨tyw_list (ts := _) (by first | exact .cl CS.same | exact .cl (by assumption) | exact .fz), ?_⟩)
  | ((with_reducible apply wg_tup); (focus rfl)) | with_reducible refine wgs_cons ?_ | with_reducible refine wgs_nil ?_
  | with_reducible refine wg_name ?_
  | with_reducible refine wg_subLs ?_ | ((with_reducible apply subw); (focus first | exact CS.same | assumption); (focus rfl))
  | with_reducible refine ite_t ?_ | with_reducible refine ite_f ?_ | with_reducible refine ite_nt ?_ | with_reducible refine ite_nf ?_
  | with_reducible refine ⟨_, rfl, ?_⟩
  | refine ⟨Nat.le_of_ble_eq_true (by rfl), ?_⟩ | with_reducible refine ⟨_, tru_B, ?_⟩ | with_reducible refine ⟨_, tru_I, ?_⟩ | with_reducible refine ⟨_, tru_N, ?_⟩)
local macro_rules | `(tactic| decreasing_trivial) => `(tactic| first
  | with_reducible refine ws_seq ?_ | with_reducible refine ws_set ?_ | with_reducible refine ws_ret ?_ | with_reducible refine ws_retN ?_ | with_reducible refine ws_drop ?_ | with_reducible refine ws_next ?_ | with_reducible refine ws_asg ?_
  | with_reducible refine ws_fldS ?_ | ((with_reducible apply fldE); (focus first | exact CS.same | assumption); (focus exact Nat.le_of_ble_eq_true (by rfl)); (focus infer_instance); (focus infer_instance))
  | with_reducible refine wt_test ?_ | with_reducible refine wt_B ?_ | with_reducible refine wt_and ?_ | with_reducible refine wt_or ?_ | with_reducible refine wt_not ?_ | with_reducible refine wt_tru ?_
  | ((with_reducible apply w_var); (focus rfl))
  | with_reducible refine w_int ?_ | with_reducible refine w_str ?_ | with_reducible refine w_bl ?_ | with_reducible refine w_non ?_ | with_reducible refine w_ref ?_ | with_reducible refine w_ty ?_
  | with_reducible refine w_op ?_ | with_reducible refine w_un ?_ | with_reducible refine w_chain ?_ | with_reducible refine w_if ?_ | with_reducible refine w_andV ?_ | with_reducible refine w_orV ?_ | with_reducible refine w_notV ?_
  | with_reducible refine wa_cons ?_ | with_reducible refine wa_nil ?_ | with_reducible refine w_tup ?_ | with_reducible refine w_cb ?_
  | with_reducible refine w_fld ?_ | with_reducible refine w_con ?_ | with_reducible refine w_callN0 ?_ | with_reducible refine w_callN ?_
  | with_reducible refine r2_addI ?_ | with_reducible refine r2_subI ?_ | with_reducible refine r2_ltI ?_ | with_reducible refine r2_leI ?_ | with_reducible refine r2_gtI ?_ | with_reducible refine r2_geI ?_ | with_reducible refine r2_eqI ?_ | with_reducible refine r2_neI ?_ | with_reducible refine r2_eqS ?_ | with_reducible refine r2_neS ?_
  | ((with_reducible apply r2_ix); (focus first | exact .tp | exact .fz | exact .sc | exact .cl CS.same | exact .cl (by assumption) | exact IsL.q (by assumption)); (focus rfl))
  | with_reducible refine w_sl ?_ | with_reducible refine wo_none ?_ | with_reducible refine wo_some ?_
  | ((with_reducible apply rl_len); (focus first | exact .tp | exact .fz | exact .sc | exact .cl CS.same | exact .cl (by assumption) | exact IsL.q (by assumption)))
  | ((with_reducible apply fwE); (focus first | exact .fz | exact .cl CS.same | exact .cl (by assumption)); (focus rfl); (focus infer_instance); (focus infer_instance))
  | with_reducible refine rl_int ?_ | with_reducible refine rl_boolB ?_
  | with_reducible refine r2_isN_yes ?_ | with_reducible refine r2_notN_no ?_ | ((with_reducible apply r2_isN_no); (focus constructor)) | ((with_reducible apply r2_notN_yes); (focus constructor))
  | ((with_reducible apply rl_isY (b := true)); (focus first | exact .int _ | exact .str _ | exact .bl _ | exact .non | exact .tup _ | exact .lst .fz | exact .lst (by assumption)); (focus rfl))
  | ((with_reducible apply rl_isY (b := false)); (focus first | exact .int _ | exact .str _ | exact .bl _ | exact .non | exact .tup _ | exact .lst .fz | exact .lst (by assumption)); (focus rfl))
  | with_reducible refine w_bm ?_ | (refine ⟨tyw_list (ts := _) (by first | exact .cl CS.same | exact .cl (by assumption) | exact .fz), ?_⟩)
  | ((with_reducible apply wg_tup); (focus rfl)) | with_reducible refine wgs_cons ?_ | with_reducible refine wgs_nil ?_
  | with_reducible refine wg_name ?_
  | with_reducible refine wg_subLs ?_ | ((with_reducible apply subw); (focus first | exact CS.same | assumption); (focus rfl))
  | with_reducible refine ite_t ?_ | with_reducible refine ite_f ?_ | with_reducible refine ite_nt ?_ | with_reducible refine ite_nf ?_
  | with_reducible refine ⟨_, rfl, ?_⟩
  | refine ⟨Nat.le_of_ble_eq_true (by rfl), ?_⟩ | with_reducible refine ⟨_, tru_B, ?_⟩ | with_reducible refine ⟨_, tru_I, ?_⟩ | with_reducible refine ⟨_, tru_N, ?_⟩)
theorem numIn_some {w : Str} {l m v : Int} (h : numIn w l m = some v) : PySem.intText? w = some v ∧ w.length ≤ 10 ∧ l ≤ v ∧ v ≤ m := by
  unfold numIn at h
  by_cases h1 : w.length = 0 ∨ 10 < w.length
  · rw [if_pos h1] at h; cases h
  rw [if_neg h1] at h
  by_cases h2 : w.cps.toList.all (fun c => decide (c ∈ digs.cps.toList)) = false
  · rw [if_pos h2] at h; cases h
  rw [if_neg h2] at h
  by_cases h3 : w.cps.toList[0]? = some 48 ∧ 1 < w.length
  · rw [if_pos h3] at h; cases h
  rw [if_neg h3] at h
  cases e : PySem.intText? w with
  | none => rw [e] at h; cases h
  | some u =>
    rw [e] at h
    dsimp only at h
    by_cases h4 : u < l ∨ m < u
    · rw [if_pos h4] at h; cases h
    · rw [if_neg h4] at h
      cases h
      exact ⟨rfl, by omega, by omega, by omega⟩
theorem isL_get {cs : CS} {x : Ty} {ws : List Str} {k : Nat} (h : IsL cs x (ws.map dS)) (hk : k < ws.length) : atI (ws.map dS) (k : Int) = some (dS ws[k]) := atI_natT (by rw [List.getElem?_map, List.getElem?_eq_getElem hk]; rfl)
theorem atw {ws : List Str} {k : Nat} (hk : k < ws.length) : atI (ws.map dS) (k : Int) = some (dS ws[k]) := atI_natT (by rw [List.getElem?_map, List.getElem?_eq_getElem hk]; rfl)
theorem sem_leading_places {K : PySem.W.Frag} [Tx K] (E : XK) : ∀ ts cs Kk ke, g_leading_places K ts cs Kk ke → WS (ZE E ke) (t_leading_places K E) { nx := fun _ cs => Kk dN cs, rt := Kk } (startD N_leading_places ts) cs := by
  rintro ts cs Kk ke ⟨x, y, rfl, ws, i, hx, rfl, hi, hl, hw, hk⟩
  unfold t_leading_places
  show WS _ _ _ [some x, some (dI (i : Int)), none] _
  refine ws_seq (ws_set (w_lst ?_))
  repeat trivial
  intro p hp
  have hx' : ∀ c, IsL (cs.set p c) x (ws.map dS) := fun c => isL_new hx hp
  refine ws_seq (ws_while (fun m ds cs' => ∃ (k : Nat) (acc : List Int), ds = [some x, some (dI (k : Int)), some (dR p)] ∧ cs' = cs.set p (.lst (acc.map dI)) ∧ k ≤ ws.length ∧ m = ws.length - k ∧ acc.length ≤ k ∧ acc ++ leadP (ws.drop k) = leadP (ws.drop i) ∧ k + (leadP (ws.drop k)).length = i + (leadP (ws.drop i)).length) (ws.length - i) ⟨i, [], rfl, rfl, hi, rfl, by simp, by simp, rfl⟩ ?_)
  rintro m ds cs' ⟨k, acc, rfl, rfl, hk1, rfl, hacc, e1, e2⟩
  have hx2 := hx' (.lst (acc.map dI))
  have fin : leadP (ws.drop k) = [] → WS (ZE E ke) (tRet (tTup (tCons (tVar 2) (tCons (tVar 1) tNil)))) { nx := fun _ cs => Kk dN cs, rt := Kk } [some x, some (dI (k : Int)), some (dR p)] (cs.set p (.lst (acc.map dI))) := fun e => by
    refine ws_ret (w_tup (wa_cons (w_frz (w_var rfl ⟨_, _, frz_new hp, ?_⟩))))
    repeat trivial
    rw [e, List.append_nil] at e1
    rw [e, List.length_nil, Nat.add_zero] at e2
    rw [← e1] at hk e2
    rw [← e2] at hk
    exact hk
  repeat trivial
  rw [List.length_map]
  refine ite_d (fun h => ?_) (fun h => ?_)
  · have hk2 : k < ws.length := by omega
    have ed : ws.drop k = ws[k] :: ws.drop (k + 1) := List.drop_eq_getElem_cons hk2
    have el : leadP (ws.drop k) = match numIn ws[k] 0 11 with | some v => v :: leadP (ws.drop (k + 1)) | none => [] := by
      rw [ed]; rfl
    repeat trivial
    refine r2_ix hx2.q (atw hk2) ?_
    repeat trivial
    refine ⟨_, _, _, rfl, ws[k], 0, 12 - 1, rfl, rfl, rfl, hw _ (List.getElem_mem hk2), ?_⟩
    cases en : numIn ws[k] 0 11 with
    | none =>
      rw [show numIn ws[k] 0 (12 - 1) = none from en]
      rw [en] at el
      repeat trivial
      refine r2_notN_no ?_
      exact ⟨_, rfl, ite_f (fin el)⟩
    | some v =>
      rw [show numIn ws[k] 0 (12 - 1) = some v from en]
      rw [en] at el
      obtain ⟨i1, i2, i3, i4⟩ := numIn_some en
      repeat trivial
      refine r2_ix hx2.q (atw hk2) ?_
      repeat trivial
      refine rl_intS i1 (by omega) ?_
      repeat trivial
      refine rm_append CS.same (by rw [List.length_map]; exact Nat.lt_of_le_of_lt (show acc.length ≤ 100 by omega) (by decide)) ?_
      rw [CS.set_set]
      refine ws_augI (a := (k : Int)) rfl ?_
      repeat trivial
      refine ⟨ws.length - (k + 1), by omega, k + 1, acc ++ [v], ?_, by rw [List.map_append]; rfl, by omega, rfl, by rw [List.length_append]; exact Nat.succ_le_succ hacc, ?_, ?_⟩
      · rfl
      · rw [← e1, el, List.append_assoc]; rfl
      · rw [el, List.length_cons] at e2; omega
  · have ek : k = ws.length := by omega
    refine ite_f (fin ?_)
    rw [ek, List.drop_length]
    rfl
theorem sem_named_number {K : PySem.W.Frag} [Tx K] (E : XK) : ∀ ts cs Kk ke, g_named_number K ts cs Kk ke → WS (ZE E ke) (t_named_number K E) { nx := fun _ cs => Kk dN cs, rt := Kk } (startD N_named_number ts) cs := by
  rintro ts cs Kk ke ⟨x, y, z, w, v, rfl, ls, i, nm, l, m, q, hx, rfl, rfl, rfl, rfl, hi, hl, q0, q1, lq, qm, hline, hnm, hnl, hk⟩
  unfold t_named_number
  show WS _ _ _ [some x, some (dI (i : Int)), some (dS nm), some (dI l), some (dI m), none, none] _
  repeat trivial
  rw [List.length_map]
  refine ite_d (fun h => absurd h (by omega)) (fun _ => ?_)
  have qs : (its q).length ≤ 12 := txI_len q0 (by decide) (by omega)
  have hll : (nm ++ " " ++ its q).length ≤ 100 := by
    rw [Str.length_append, Str.length_append]
    have : (" " : Str).length = 1 := rfl
    omega
  refine ws_next (ws_seq (ws_set (w_m1 ?_)))
  repeat trivial
  refine r2_ix hx.q (atI_natT (by rw [List.getElem?_map, hline]; rfl)) ?_
  repeat trivial
  refine rm_splitF rfl (Nat.le_trans (Nat.add_le_add_right hll 2) (by decide)) ?_
  rw [named_split hnm q0]
  repeat trivial
  rw [show decide (((List.map dS [nm, its q]).length : Int) = 2) = true from rfl]
  repeat trivial
  rw [decT rfl]
  repeat trivial
  refine ⟨_, _, _, rfl, its q, l, m, rfl, rfl, rfl, by omega, ?_⟩
  rw [numIn_txI q0 (by omega) lq qm]
  repeat trivial
theorem sem_mode_in {K : PySem.W.Frag} [Tx K] (E : XK) : ∀ ts cs Kk ke, g_mode_in K ts cs Kk ke → WS (ZE E ke) (t_mode_in K E) { nx := fun _ cs => Kk dN cs, rt := Kk } (startD N_mode_in ts) cs := by
  rintro ts cs Kk ke ⟨x, y, rfl, ls, i, b, hx, rfl, hi, hl, hline, hk⟩
  have hix : atI (ls.map dS) (i : Int) = some (dS ("mode " ++ modeN b)) := atI_natT (by rw [List.getElem?_map, hline]; rfl)
  have eg : ("mode " : Str) ++ "gather" = "mode gather" := TL.ext_tl (by rw [TL.tl_append]; rfl)
  have es : ("mode " : Str) ++ "spread" = "mode spread" := TL.ext_tl (by rw [TL.tl_append]; rfl)
  have ne : ("mode spread" : Str) ≠ "mode gather" := by decide
  unfold t_mode_in
  show WS _ _ _ [some x, some (dI (i : Int))] _
  repeat trivial
  rw [List.length_map]
  refine ite_d (fun _ => ?_) (fun h => absurd (by omega) h)
  repeat trivial
  refine r2_ix hx.q hix ?_
  repeat trivial
  obtain ⟨u, hu⟩ := cv_Gather_NAME (K := K)
  refine w_cval ?_
  repeat trivial
  refine ⟨_, _, _, u, dS "gather", rfl, cr_Gather, hu, fun _ => rfl, ?_⟩
  refine r2_addS (by decide) ?_
  repeat trivial
  cases b
  · rw [show decide (("mode " : Str) ++ modeN false = "mode " ++ "gather") = false from decide_eq_false (by rw [eg]; show ("mode " : Str) ++ "spread" ≠ _; rw [es]; exact ne)]
    repeat trivial
    rw [List.length_map]
    refine ite_d (fun _ => ?_) (fun h => absurd (by omega) h)
    repeat trivial
    refine r2_ix hx.q hix ?_
    repeat trivial
    obtain ⟨u2, hu2⟩ := cv_Spread_NAME (K := K)
    refine w_cval ?_
    repeat trivial
    refine ⟨_, _, _, u2, dS "spread", rfl, cr_Spread, hu2, fun _ => rfl, ?_⟩
    refine r2_addS (by decide) ?_
    repeat trivial
    rw [show decide (("mode " : Str) ++ modeN false = "mode " ++ "spread") = true from decT rfl]
    repeat trivial
    exact w_frz (w_mk0 fun a ha => ⟨_, _, frz_newO ha, hk⟩)
  · rw [show decide (("mode " : Str) ++ modeN true = "mode " ++ "gather") = true from decT rfl]
    repeat trivial
    exact w_frz (w_mk0 fun a ha => ⟨_, _, frz_newO ha, hk⟩)
theorem isL_eq {cs : CS} {x : Ty} {a : Addr} {ts : List Ty} (h : cs a = some (.lst ts)) : IsL cs (dR a) ts := .cl h
theorem sem_write_network {K : PySem.W.Frag} [Tx K] (E : XK) : ∀ ts cs Kk ke, g_write_network K ts cs Kk ke → WS (ZE E ke) (t_write_network K E) { nx := fun _ cs => Kk dN cs, rt := Kk } (startD N_write_network ts) cs := by
  rintro ts cs Kk ke ⟨x, y, rfl, n, r, c, b, ls, rfl, rfl, n0, n1, hl, hok, r0, r1, c0, c1, hk, hke⟩
  have hN : NetOk n r c ls := ⟨by omega, n1, r0, r1, c0, c1, hl, hok⟩
  unfold t_write_network
  show WS _ _ _ [some (netT K n ls), some (demT K r c b), none, none] _
  repeat trivial
  refine ⟨_, _, rfl, n, r, rfl, rfl, fun h => ?_, fun h => hke (by omega)⟩
  have hk := hk h.2
  refine ws_seq (ws_set (w_lst ?_))
  have num : ∀ (p : Str) (z : Int), 0 ≤ z → z ≤ 12 → p.length ≤ 100 → (Str.empty ++ p ++ txI z).length ≤ sizeLine := fun p z z0 z1 hp => by
    have q : (txI z).length ≤ 12 := txI_len z0 (by decide) (by omega)
    rw [Str.length_append, Str.length_append]
    exact Nat.le_trans (show Str.empty.length + p.length + (txI z).length ≤ 200 by have : Str.empty.length = 0 := rfl; omega) (by decide)
  have fs : ∀ {te : TE} {p : Str} {z : Int} {ds : Ds} {cs : CS} {KK : Ty → CS → Prop}, 0 ≤ z → z ≤ 12 → p.length ≤ 100 → W (ZE E ke) te ds cs (fun x cs1 => x = dI z ∧ KK (dS (p ++ txI z)) cs1) → W (ZE E ke) (tFstr [(tC (.str p)), (tFmt te)]) ds cs KK := fun {te p z ds cs KK} z0 z1 hp h => by
    refine w_fstr (wj_cons (w_str ⟨p, rfl, ?_, wj_cons (w_fmtI (w_mono h fun x cs1 ⟨e, k⟩ => ⟨z, e, log_small z0 (by omega), ?_⟩))⟩))
    · rw [Str.empty_append]
      exact Nat.le_trans hp (by decide)
    · refine ⟨_, rfl, num p z z0 z1 hp, wj_nil ?_⟩
      rw [Str.empty_append]
      exact k
  refine wa_cons (fs (z := n) (by omega) n1 (by decide) ?_)
  repeat decreasing_trivial
  refine ⟨rfl, ?_⟩
  refine wa_cons (fs (z := r) (by omega) (by omega) (by decide) ?_)
  repeat decreasing_trivial
  refine ⟨rfl, ?_⟩
  refine wa_cons (fs (z := c) (by omega) (by omega) (by decide) ?_)
  repeat decreasing_trivial
  refine ⟨rfl, ?_⟩
  repeat trivial
  intro p hp
  obtain ⟨u, hu⟩ := con_mode (K := K) b
  have lml : (("mode " : Str) ++ modeN b).length ≤ 100 := by cases b <;> decide
  repeat trivial
  refine ⟨_, [], dS (modeN b), _, u, .fz, cls_mode b, hu, rfl, fun _ => rfl, ?_⟩
  refine r2_addS (by rw [← Str.length_append]; exact Nat.le_trans lml (by decide)) ?_
  repeat trivial
  refine rm_append CS.same (by show 3 < _; decide) ?_
  rw [CS.set_set]
  have t4 : (netLines n r c b ls).take 4 = ["places " ++ its n, "root " ++ its r, "count " ++ its c, "mode " ++ modeN b] := rfl
  have llen : (netLines n r c b ls).length = 4 + ls.length := lines_len
  refine ws_seq (ws_forT (w_fld (w_var rfl (fwE .fz rfl inferInstance inferInstance ⟨_, rfl, fun i ds cs' => i ≤ ls.length ∧ (∃ o, ds = [some (netT K n ls), some (demT K r c b), some (dR p), o]) ∧ cs' = cs.set p (.lst (((netLines n r c b ls).take (4 + i)).map dS)), ⟨Nat.zero_le _, ⟨none, rfl⟩, rfl⟩, ?_, ?_⟩))))
  · rintro i t ds cs' ht ⟨hi, ⟨o, rfl⟩, rfl⟩
    have hi2 : i < ls.length := by
      have := (List.getElem?_eq_some_iff.mp ht).1
      rwa [List.length_map] at this
    rw [List.getElem?_map, List.getElem?_eq_getElem hi2] at ht
    cases ht
    have hlo := hok _ (List.getElem_mem hi2)
    have hlt : (("lot " : Str) ++ lotTxt ls[i]).length ≤ 400 := lot_line_len hlo
    repeat trivial
    refine rl_strO .fz ⟨_, rfl, ls[i], rfl, hlo, lotTxt ls[i], rfl, ?_⟩
    refine r2_addS (by rw [← Str.length_append]; exact Nat.le_trans hlt (by decide)) ?_
    repeat trivial
    refine rm_append CS.same (by
      rw [List.length_map, List.length_take]
      exact Nat.lt_of_le_of_lt (show min (4 + i) (netLines n r c b ls).length ≤ 100 by omega) (by decide)) ?_
    refine ⟨hi2, ⟨_, rfl⟩, ?_⟩
    rw [CS.set_set]
    have e : (netLines n r c b ls).take (4 + (i + 1)) = (netLines n r c b ls).take (4 + i) ++ [("lot " : Str) ++ lotTxt ls[i]] := by
      rw [show 4 + (i + 1) = (4 + i) + 1 by omega, List.take_succ_eq_append_getElem (by omega)]
      congr 2
      unfold netLines
      rw [List.getElem_append_right (by simp)]
      simp
    rw [e, List.map_append]
    rfl
  · rintro ds cs' ⟨hi, ⟨o, rfl⟩, rfl⟩
    rw [List.take_of_length_le (by rw [llen, List.length_map]; omega)]
    refine ws_ret (w_frz (w_m1 ?_))
    repeat trivial
    refine rm_join (.cl CS.same) (join_bound (by omega) (fun y hy => Nat.le_trans (lines_ok hN y hy).2 (by decide)) (by decide)) ⟨_, _, frz_less (cs' := cs) (fun b c hb => by rw [CS.ne (CS.ne_of hb hp)]; exact hb), hk⟩
theorem sem_law_network_text {K : PySem.W.Frag} [Tx K] (E : XK) : ∀ ts cs Kk ke, g_law_network_text K ts cs Kk ke → WS (ZE E ke) (t_law_network_text K E) { nx := fun _ cs => Kk dN cs, rt := Kk } (startD N_law_network_text ts) cs := by
  rintro ts cs Kk ke ⟨x, y, z, w, v, rfl, c, hc, rfl, rfl, rfl, rfl, rfl, hk⟩
  unfold t_law_network_text
  show WS _ _ _ [some (dI c.n), some (dI c.top), some (dI c.many), some (dS (modeN c.b)), some (dL (c.rows.map rowT)), none, none] _
  have h0 := hc.n1
  have h1 := hc.n2
  have h2 := hc.t0
  have h3 := hc.t1
  have h4 := hc.m0
  have h5 := hc.m1
  have num : ∀ (p : Str) (z : Int), 0 ≤ z → z ≤ 12 → p.length ≤ 100 → p.length + (txI z).length ≤ sizeLine := fun p z z0 z1 hp => by
    have q : (txI z).length ≤ 12 := txI_len z0 (by decide) (by omega)
    exact Nat.le_trans (show p.length + (txI z).length ≤ 200 by omega) (by decide)
  have fs : ∀ {te : TE} {p : Str} {z : Int} {ds : Ds} {cs : CS} {KK : Ty → CS → Prop}, 0 ≤ z → z ≤ 12 → p.length ≤ 100 → W (ZE E ke) te ds cs (fun x cs1 => x = dI z ∧ KK (dS (p ++ txI z)) cs1) → W (ZE E ke) (tOp (rAddA K) (tC (.str p)) (tCB rStrI (tCons te tNil))) ds cs KK := fun {te p z ds cs KK} z0 z1 hp h =>
    w_op (w_str (w_cb (wa_cons (w_mono h fun x cs1 ⟨e, k⟩ => wa_nil (by subst e; exact rl_strI (log_small z0 (by omega)) (r2_addS (num p z z0 z1 hp) k))))))
  refine ws_seq (ws_set (w_lstF ?_))
  refine wa_cons (fs (z := c.n) (by omega) h1 (by decide) ?_)
  repeat decreasing_trivial
  refine ⟨rfl, ?_⟩
  refine wa_cons (fs (z := c.top) h2 (by omega) (by decide) ?_)
  repeat decreasing_trivial
  refine ⟨rfl, ?_⟩
  refine wa_cons (fs (z := c.many) h4 (by omega) (by decide) ?_)
  repeat decreasing_trivial
  refine ⟨rfl, ?_⟩
  repeat decreasing_trivial
  refine r2_addS (by cases c.b <;> decide) ?_
  repeat decreasing_trivial
  refine w_m1 ?_
  repeat decreasing_trivial
  refine w_frz (w_lcL (gonly_name (by simp)) ?_)
  repeat decreasing_trivial
  refine ⟨_, .fz, lck_mapL (fun r => dS ("lot " ++ lotTxt r.lot)) (fun _ _ _ => .fz) (Nat.lt_of_le_of_lt hc.len (by decide)) ?_ ?_⟩
  · intro r cs2 hr hb
    have hlo : r.lot.Ok 12 := (hc.rok r hr).lot.up h1
    repeat decreasing_trivial
    refine ⟨_, rfl, r, rfl, ⟨(hc.rok r hr).nd, (hc.rok r hr).len, fun z hz => ⟨((hc.rok r hr).rng z hz).1, by have := ((hc.rok r hr).rng z hz).2; omega⟩, (hc.rok r hr).mnd, (hc.rok r hr).mne, (hc.rok r hr).sub, (hc.rok r hr).p0, (hc.rok r hr).p1⟩, ?_⟩
    refine r2_addS (by rw [← Str.length_append]; exact Nat.le_trans (lot_line_len hlo) (by decide)) ?_
    exact ⟨rfl, rfl⟩
  · have hN : NetOk c.n c.top c.many c.lots := ⟨by omega, h1, h2, by omega, h4, h5, by unfold CaseD.lots; rw [List.length_map]; exact hc.len, fun l hl => by
      obtain ⟨r, hr, rfl⟩ := List.mem_map.mp hl
      exact (hc.rok r hr).lot.up h1⟩
    refine r2_addLF .fz .fz (by rw [List.length_map]; exact Nat.le_trans (show 4 + c.rows.length ≤ 100 by have := hc.len; omega) (by decide)) ?_
    have e : [dS (("places " : Str) ++ txI c.n), dS (("root " : Str) ++ txI c.top), dS (("count " : Str) ++ txI c.many), dS (("mode " : Str) ++ modeN c.b)] ++ c.rows.map (fun r => dS (("lot " : Str) ++ lotTxt r.lot)) = (netLines c.n c.top c.many c.b c.lots).map dS := by
      unfold netLines CaseD.lots
      rw [List.map_append, List.map_map, List.map_map]
      rfl
    refine (show RMW (rJoin K) (dS "\n") [dL ([dS (("places " : Str) ++ txI c.n), dS (("root " : Str) ++ txI c.top), dS (("count " : Str) ++ txI c.many), dS (("mode " : Str) ++ modeN c.b)] ++ c.rows.map (fun r => dS (("lot " : Str) ++ lotTxt r.lot)))] cs Kk from ?_)
    rw [e]
    exact rm_join .fz (join_bound (by rw [lines_len]; unfold CaseD.lots; rw [List.length_map]; have := hc.len; omega) (fun y hy => Nat.le_trans (lines_ok hN y hy).2 (by decide)) (by decide)) hk
end K63

set_option Elab.async false
set_option linter.all false
set_option maxRecDepth 100000
set_option maxHeartbeats 2000000
set_option autoImplicit false
namespace K63
open PySem PySem.Spec PyProof.Rows L2 S
local macro_rules | `(tactic| trivial) => `(tactic| first
  | with_reducible refine ws_seq ?_ | with_reducible refine ws_set ?_ | with_reducible refine ws_ret ?_ | with_reducible refine ws_retN ?_ | with_reducible refine ws_drop ?_ | with_reducible refine ws_if ?_ | with_reducible refine ws_next ?_ | with_reducible refine ws_asg ?_
  | with_reducible refine ws_fldS ?_ | ((with_reducible apply fldE); (focus first | exact CS.same | assumption); (focus exact Nat.le_of_ble_eq_true (by rfl)); (focus infer_instance); (focus infer_instance))
  | with_reducible refine wt_test ?_ | with_reducible refine wt_B ?_ | with_reducible refine wt_and ?_ | with_reducible refine wt_or ?_ | with_reducible refine wt_not ?_ | with_reducible refine wt_tru ?_
  | ((with_reducible apply w_var); (focus rfl))
  | with_reducible refine w_int ?_ | with_reducible refine w_str ?_ | with_reducible refine w_bl ?_ | with_reducible refine w_non ?_ | with_reducible refine w_ref ?_ | with_reducible refine w_ty ?_
  | with_reducible refine w_op ?_ | with_reducible refine w_un ?_ | with_reducible refine w_chain ?_ | with_reducible refine w_if ?_ | with_reducible refine w_andV ?_ | with_reducible refine w_orV ?_ | with_reducible refine w_notV ?_
  | with_reducible refine wa_cons ?_ | with_reducible refine wa_nil ?_ | with_reducible refine w_tup ?_ | with_reducible refine w_cb ?_
  | with_reducible refine w_fld ?_ | with_reducible refine w_con ?_ | with_reducible refine w_callN0 ?_ | with_reducible refine w_callN ?_
  | with_reducible refine r2_addI ?_ | with_reducible refine r2_subI ?_ | with_reducible refine r2_ltI ?_ | with_reducible refine r2_leI ?_ | with_reducible refine r2_gtI ?_ | with_reducible refine r2_geI ?_ | with_reducible refine r2_eqI ?_ | with_reducible refine r2_neI ?_ | with_reducible refine r2_eqS ?_ | with_reducible refine r2_neS ?_
  | ((with_reducible apply r2_ix); (focus first | exact .tp | exact .fz | exact .sc | exact .cl CS.same | exact .cl (by assumption) | exact IsL.q (by assumption)); (focus rfl))
  | with_reducible refine w_sl ?_ | with_reducible refine wo_none ?_ | with_reducible refine wo_some ?_
  | ((with_reducible apply rl_len); (focus first | exact .tp | exact .fz | exact .sc | exact .cl CS.same | exact .cl (by assumption) | exact IsL.q (by assumption)))
  | ((with_reducible apply fwE); (focus first | exact .fz | exact .cl CS.same | exact .cl (by assumption)); (focus rfl); (focus infer_instance); (focus infer_instance))
  | with_reducible refine rl_int ?_ | with_reducible refine rl_boolB ?_
  | with_reducible refine r2_isN_yes ?_ | with_reducible refine r2_notN_no ?_ | ((with_reducible apply r2_isN_no); (focus constructor)) | ((with_reducible apply r2_notN_yes); (focus constructor))
  | ((with_reducible apply rl_isY (b := true)); (focus first | exact .int _ | exact .str _ | exact .bl _ | exact .non | exact .tup _ | exact .lst .fz | exact .lst (by assumption)); (focus rfl))
  | ((with_reducible apply rl_isY (b := false)); (focus first | exact .int _ | exact .str _ | exact .bl _ | exact .non | exact .tup _ | exact .lst .fz | exact .lst (by assumption)); (focus rfl))
  | with_reducible refine w_bm ?_ | (refine ⟨tyw_list (ts := _) (by first | exact .cl CS.same | exact .cl (by assumption) | exact .fz), ?_⟩)
  | ((with_reducible apply wg_tup); (focus rfl)) | with_reducible refine wgs_cons ?_ | with_reducible refine wgs_nil ?_
  | with_reducible refine wg_name ?_
  | with_reducible refine wg_subLs ?_ | ((with_reducible apply subw); (focus first | exact CS.same | assumption); (focus rfl))
  | with_reducible refine ite_t ?_ | with_reducible refine ite_f ?_ | with_reducible refine ite_nt ?_ | with_reducible refine ite_nf ?_
  | with_reducible refine ⟨_, rfl, ?_⟩
  | refine ⟨Nat.le_of_ble_eq_true (by rfl), ?_⟩ | with_reducible refine ⟨_, tru_B, ?_⟩ | with_reducible refine ⟨_, tru_I, ?_⟩ | with_reducible refine ⟨_, tru_N, ?_⟩)
local macro_rules | `(tactic| decreasing_trivial) => `(tactic| first
  | with_reducible refine ws_seq ?_ | with_reducible refine ws_set ?_ | with_reducible refine ws_ret ?_ | with_reducible refine ws_retN ?_ | with_reducible refine ws_drop ?_ | with_reducible refine ws_next ?_ | with_reducible refine ws_asg ?_
  | with_reducible refine ws_fldS ?_ | ((with_reducible apply fldE); (focus first | exact CS.same | assumption); (focus exact Nat.le_of_ble_eq_true (by rfl)); (focus infer_instance); (focus infer_instance))
  | with_reducible refine wt_test ?_ | with_reducible refine wt_B ?_ | with_reducible refine wt_and ?_ | with_reducible refine wt_or ?_ | with_reducible refine wt_not ?_ | with_reducible refine wt_tru ?_
  | ((with_reducible apply w_var); (focus rfl))
  | with_reducible refine w_int ?_ | with_reducible refine w_str ?_ | with_reducible refine w_bl ?_ | with_reducible refine w_non ?_ | with_reducible refine w_ref ?_ | with_reducible refine w_ty ?_
  | with_reducible refine w_op ?_ | with_reducible refine w_un ?_ | with_reducible refine w_chain ?_ | with_reducible refine w_if ?_ | with_reducible refine w_andV ?_ | with_reducible refine w_orV ?_ | with_reducible refine w_notV ?_
  | with_reducible refine wa_cons ?_ | with_reducible refine wa_nil ?_ | with_reducible refine w_tup ?_ | with_reducible refine w_cb ?_
  | with_reducible refine w_fld ?_ | with_reducible refine w_con ?_ | with_reducible refine w_callN0 ?_ | with_reducible refine w_callN ?_
  | with_reducible refine r2_addI ?_ | with_reducible refine r2_subI ?_ | with_reducible refine r2_ltI ?_ | with_reducible refine r2_leI ?_ | with_reducible refine r2_gtI ?_ | with_reducible refine r2_geI ?_ | with_reducible refine r2_eqI ?_ | with_reducible refine r2_neI ?_ | with_reducible refine r2_eqS ?_ | with_reducible refine r2_neS ?_
  | ((with_reducible apply r2_ix); (focus first | exact .tp | exact .fz | exact .sc | exact .cl CS.same | exact .cl (by assumption) | exact IsL.q (by assumption)); (focus rfl))
  | with_reducible refine w_sl ?_ | with_reducible refine wo_none ?_ | with_reducible refine wo_some ?_
  | ((with_reducible apply rl_len); (focus first | exact .tp | exact .fz | exact .sc | exact .cl CS.same | exact .cl (by assumption) | exact IsL.q (by assumption)))
  | ((with_reducible apply fwE); (focus first | exact .fz | exact .cl CS.same | exact .cl (by assumption)); (focus rfl); (focus infer_instance); (focus infer_instance))
  | with_reducible refine rl_int ?_ | with_reducible refine rl_boolB ?_
  | with_reducible refine r2_isN_yes ?_ | with_reducible refine r2_notN_no ?_ | ((with_reducible apply r2_isN_no); (focus constructor)) | ((with_reducible apply r2_notN_yes); (focus constructor))
  | ((with_reducible apply rl_isY (b := true)); (focus first | exact .int _ | exact .str _ | exact .bl _ | exact .non | exact .tup _ | exact .lst .fz | exact .lst (by assumption)); (focus rfl))
  | ((with_reducible apply rl_isY (b := false)); (focus first | exact .int _ | exact .str _ | exact .bl _ | exact .non | exact .tup _ | exact .lst .fz | exact .lst (by assumption)); (focus rfl))
  | with_reducible refine w_bm ?_ | (refine ⟨tyw_list (ts := _) (by first | exact .cl CS.same | exact .cl (by assumption) | exact .fz), ?_⟩)
  | ((with_reducible apply wg_tup); (focus rfl)) | with_reducible refine wgs_cons ?_ | with_reducible refine wgs_nil ?_
  | with_reducible refine wg_name ?_
  | with_reducible refine wg_subLs ?_ | ((with_reducible apply subw); (focus first | exact CS.same | assumption); (focus rfl))
  | with_reducible refine ite_t ?_ | with_reducible refine ite_f ?_ | with_reducible refine ite_nt ?_ | with_reducible refine ite_nf ?_
  | with_reducible refine ⟨_, rfl, ?_⟩
  | refine ⟨Nat.le_of_ble_eq_true (by rfl), ?_⟩ | with_reducible refine ⟨_, tru_B, ?_⟩ | with_reducible refine ⟨_, tru_I, ?_⟩ | with_reducible refine ⟨_, tru_N, ?_⟩)
theorem heads_none : ∀ l m : Int, numIn ("heads" : Str) l m = none := fun l m => numIn_word rfl
theorem price_none : ∀ l m : Int, numIn ("price" : Str) l m = none := fun l m => numIn_word rfl
theorem lead_mem {l : LotD} (h : l.Ok 12) : leadP (lotWords l) = l.mem := by
  unfold lotWords
  refine leadP_map (fun z hz => h.rng z hz) fun w hw => ?_
  by_cases h1 : l.cand = l.mem <;> by_cases h2 : l.price = 0
  · rw [if_pos h1, if_pos h2] at hw; cases hw
  · rw [if_pos h1, if_neg h2] at hw; cases hw; exact price_none _ _
  · rw [if_neg h1, if_pos h2] at hw; cases hw; exact heads_none _ _
  · rw [if_neg h1, if_neg h2] at hw; cases hw; exact heads_none _ _
/-- how many words stand at the end -/
def endN (l : LotD) : Nat := if l.price = 0 then 0 else 2
theorem lead_cand {l : LotD} (h : l.Ok 12) (h1 : l.cand ≠ l.mem) : (lotWords l).drop l.mem.length = ("heads" : Str) :: (l.cand.map txI ++ (if l.price = 0 then [] else [("price" : Str), txI l.price])) := by
  unfold lotWords
  rw [if_neg h1]
  have e : l.mem.length = (l.mem.map txI).length := by simp
  rw [e, List.drop_left]
  rfl
theorem lead_cand2 {l : LotD} (h : l.Ok 12) : leadP (l.cand.map txI ++ (if l.price = 0 then [] else [("price" : Str), txI l.price])) = l.cand := by
  refine leadP_map (fun z hz => h.cand_rng z hz) fun w hw => ?_
  by_cases h2 : l.price = 0
  · rw [if_pos h2] at hw; cases hw
  · rw [if_neg h2] at hw; cases hw; exact price_none _ _
theorem words_len {l : LotD} : (lotWords l).length = l.mem.length + (if l.cand = l.mem then 0 else 1 + l.cand.length) + endN l := by
  unfold lotWords endN
  split <;> split <;> simp <;> omega
theorem last_word {l : LotD} (h2 : l.price ≠ 0) : ∃ pre, lotWords l = pre ++ [txI l.price] := by
  unfold lotWords
  rw [if_neg h2]
  exact ⟨l.mem.map txI ++ ((if l.cand = l.mem then [] else ("heads" : Str) :: l.cand.map txI) ++ [("price" : Str)]), by simp⟩
theorem sem_lot_in {K : PySem.W.Frag} [Tx K] (E : XK) : ∀ ts cs Kk ke, g_lot_in K ts cs Kk ke → WS (ZE E ke) (t_lot_in K E) { nx := fun _ cs => Kk dN cs, rt := Kk } (startD N_lot_in ts) cs := by
  rintro ts cs Kk ke ⟨x, y, z, rfl, l, n, i, rfl, rfl, rfl, hn, hln, hk⟩
  have hl := hln.up hn
  have ll := lot_line_len hl
  have l1 := hl.mem_len
  have l2 := hl.cand_len
  have lw := lotWords_len hl
  generalize hA : (("lot " : Str) ++ lotTxt l) = line at ll
  have hsp : Txt.split line " " = ("lot" : Str) :: lotWords l := by rw [← hA]; exact lot_split hln hn
  have hws : ∀ w ∈ (("lot" : Str) :: lotWords l), w.length ≤ 100000 := fun w hw => Nat.le_trans (lot_words hln hn w hw).2 (by decide)
  have hwl : (("lot" : Str) :: lotWords l).length = 1 + (lotWords l).length := by rw [List.length_cons, Nat.add_comm]
  unfold t_lot_in
  show WS _ _ _ [some (dS line), some (dI n), some (dI i), none, none, none, none, none, none] _
  refine ws_seq (ws_set (w_m1 ?_))
  repeat trivial
  refine rm_splitF rfl (Nat.le_trans (Nat.add_le_add_right ll 2) (by decide)) ?_
  rw [hsp]
  repeat trivial
  refine ⟨_, _, rfl, ("lot" : Str) :: lotWords l, 1, .fz, rfl, by rw [hwl]; omega, by rw [hwl]; omega, hws, ?_⟩
  rw [List.drop_one, List.tail_cons, lead_mem hl]
  repeat decreasing_trivial
  refine ws_nx (fun ds cs' => cs' = cs ∧ ∃ (zc : Ty) (k : Nat), ds = [some (dS line), some (dI n), some (dI i), some (dL ((("lot" : Str) :: lotWords l).map dS)), some (dL (l.mem.map dI)), some (dI (k : Int)), some zc, none, none] ∧ ((zc = dN ∧ l.cand = l.mem) ∨ zc = dL (l.cand.map dI)) ∧ k + endN l = 1 + (lotWords l).length) ?_ ?_
  · repeat trivial
    rw [List.length_map, hwl]
    have wl := words_len (l := l)
    by_cases h1 : l.cand = l.mem
    · rw [if_pos h1] at wl
      refine ite_d (fun h => ?_) (fun h => ?_)
      · repeat trivial
        have hp : l.price ≠ 0 := fun e => by
          unfold endN at wl
          rw [if_pos e] at wl
          omega
        have hk2 : 1 + l.mem.length < (("lot" : Str) :: lotWords l).length := by rw [hwl]; omega
        have ew : (("lot" : Str) :: lotWords l)[1 + l.mem.length] = "price" := by
          simp only [Nat.add_comm 1 l.mem.length, List.getElem_cons_succ]
          unfold lotWords
          simp only [if_pos h1, if_neg hp]
          rw [List.getElem_append_right (by simp)]
          simp
        refine r2_ix .fz (atw hk2) ?_
        rw [ew]
        repeat trivial
        rw [show decide (("price" : Str) = "heads") = false from by decide]
        repeat trivial
        exact ⟨rfl, dN, _, rfl, .inl ⟨rfl, h1⟩, by omega⟩
      · repeat trivial
        exact ⟨rfl, dN, _, rfl, .inl ⟨rfl, h1⟩, by omega⟩
    · rw [if_neg h1] at wl
      refine ite_d (fun h => ?_) (fun h => absurd (by omega) h)
      repeat trivial
      have hk2 : 1 + l.mem.length < (("lot" : Str) :: lotWords l).length := by rw [hwl]; omega
      have ed : (("lot" : Str) :: lotWords l).drop (1 + l.mem.length) = ("heads" : Str) :: (l.cand.map txI ++ (if l.price = 0 then [] else [("price" : Str), txI l.price])) := by
        rw [Nat.add_comm, List.drop_succ_cons, lead_cand hl h1]
      have ew : (("lot" : Str) :: lotWords l)[1 + l.mem.length] = "heads" := by
        have q := List.drop_eq_getElem_cons hk2
        rw [ed] at q
        exact (List.cons.inj q).1.symm
      have ed2 : (("lot" : Str) :: lotWords l).drop (1 + l.mem.length + 1) = l.cand.map txI ++ (if l.price = 0 then [] else [("price" : Str), txI l.price]) := by
        have q := List.drop_eq_getElem_cons hk2
        rw [ed] at q
        exact (List.cons.inj q).2.symm
      refine r2_ix .fz (atw hk2) ?_
      rw [ew]
      repeat trivial
      rw [decT rfl]
      repeat trivial
      refine ⟨_, _, rfl, ("lot" : Str) :: lotWords l, 1 + l.mem.length + 1, .fz, rfl, by omega, by rw [hwl]; omega, hws, ?_⟩
      rw [ed2, lead_cand2 hl]
      repeat trivial
      exact ⟨rfl, _, _, rfl, .inr rfl, by omega⟩
  · rintro ds cs' ⟨rfl, zc, k, rfl, hzc, hkk⟩
    repeat decreasing_trivial
    refine ws_nx (fun ds cs2 => cs2 = cs' ∧ ∃ q : Ty, ds = [some (dS line), some (dI n), some (dI i), some (dL ((("lot" : Str) :: lotWords l).map dS)), some (dL (l.mem.map dI)), some (dI (k : Int)), some zc, some q, none] ∧ ((q = dN ∧ l.price = 0) ∨ q = dI l.price)) ?_ ?_
    · repeat trivial
      rw [List.length_map, hwl]
      unfold endN at hkk
      by_cases hp : l.price = 0
      · rw [if_pos hp] at hkk
        refine ite_d (fun h => absurd h (by omega)) (fun h => ?_)
        repeat trivial
        exact .inl ⟨rfl, hp⟩
      · rw [if_neg hp] at hkk
        refine ite_d (fun h => ?_) (fun h => absurd (by omega) h)
        repeat trivial
        refine r1_negI ?_
        obtain ⟨pre, hpre⟩ := last_word hp
        refine r2_ix (t := dS (txI l.price)) .fz (by
          have e : (("lot" : Str) :: lotWords l).map dS = ((("lot" : Str) :: pre).map dS) ++ [dS (txI l.price)] := by rw [hpre]; simp
          rw [e]
          exact L2.atI_last _ _) ?_
        repeat trivial
        refine ⟨_, _, _, rfl, txI l.price, 1, 1000000000, rfl, rfl, rfl, hws _ (by rw [hpre]; simp), ?_⟩
        have p0 := hl.p0
        have p1 := hl.p1
        rw [numIn_txI p0 (by omega) (by omega) p1]
        repeat trivial
        exact .inr rfl
    · rintro ds cs2 ⟨rfl, q, rfl, hq⟩
      refine ws_seq (ws_set (w_makeF (fs := l.F) (wa_cons (w_var rfl (wa_cons (w_var rfl (wa_cons ?_)))))))
      refine w_mono (K := fun x cs1 => x = dI l.price ∧ cs1 = cs2) ?_ ?_
      · rcases hq with ⟨rfl, hp⟩ | rfl
        · repeat trivial
          rw [hp]
          exact ⟨rfl, rfl⟩
        · repeat trivial
      · rintro x cs1 ⟨rfl, rfl⟩
        refine wa_nil ?_
        have hnd : l.mem.Nodup := hl.srt.imp fun h => by omega
        have hcd : l.cand.Nodup := hl.csrt.imp fun h => by omega
        have es : srt l.mem = l.mem := (srt_eq (List.Perm.refl _) (hl.srt.imp fun h => by omega)).symm
        have ec : srt l.cand = l.cand := (srt_eq (List.Perm.refl _) (hl.csrt.imp fun h => by omega)).symm
        refine ⟨?_, fun x hx kk hkk => ⟨_, _, _, _, rfl, x, l.mem, l.cand, l.price, rfl, CS.same, .fz, ?_, rfl, ⟨hnd, hl.len, by omega, hl.rng, hcd, hl.cne, by omega, hl.sub, hl.p0, hl.p1⟩, ?_⟩⟩
        · repeat trivial
          refine rl_strO .fz ⟨_, rfl, l, rfl, hl, lotTxt l, rfl, ?_⟩
          refine r2_addS (by rw [← Str.length_append, hA]; exact Nat.le_trans ll (by decide)) ?_
          rw [hA]
          repeat trivial
          rw [decT rfl]
          repeat trivial
          refine r1_negI ?_
          have hne := hl.mne
          refine r2_ix (t := dI (l.mem.getLast hne)) .tp (by
            have e : l.mem.map dI = (l.mem.dropLast.map dI) ++ [dI (l.mem.getLast hne)] := by
              conv => lhs; rw [← List.dropLast_concat_getLast hne]
              simp
            rw [e]
            exact L2.atI_last _ _) ?_
          repeat trivial
          have hlast := (hln.rng _ (List.getLast_mem hne)).2
          refine ite_d (fun h => absurd h (by omega)) (fun _ => ?_)
          repeat trivial
        · rcases hzc with ⟨rfl, e⟩ | rfl
          · exact .inl ⟨rfl, e⟩
          · exact .inr .fz
        · rw [CS.set_set, es, ec]
          exact hkk
end K63

set_option Elab.async false
set_option linter.all false
set_option maxRecDepth 100000
set_option maxHeartbeats 2000000
set_option autoImplicit false
namespace K63
open PySem PySem.Spec PyProof.Rows L2 S
local macro_rules | `(tactic| trivial) => `(tactic| first
  | with_reducible refine ws_seq ?_ | with_reducible refine ws_set ?_ | with_reducible refine ws_ret ?_ | with_reducible refine ws_retN ?_ | with_reducible refine ws_drop ?_ | with_reducible refine ws_if ?_ | with_reducible refine ws_next ?_ | with_reducible refine ws_asg ?_
  | with_reducible refine ws_fldS ?_ | ((with_reducible apply fldE); (focus first | exact CS.same | assumption); (focus exact Nat.le_of_ble_eq_true (by rfl)); (focus infer_instance); (focus infer_instance))
  | with_reducible refine wt_test ?_ | with_reducible refine wt_B ?_ | with_reducible refine wt_and ?_ | with_reducible refine wt_or ?_ | with_reducible refine wt_not ?_ | with_reducible refine wt_tru ?_
  | ((with_reducible apply w_var); (focus rfl))
  | with_reducible refine w_int ?_ | with_reducible refine w_str ?_ | with_reducible refine w_bl ?_ | with_reducible refine w_non ?_ | with_reducible refine w_ref ?_ | with_reducible refine w_ty ?_
  | with_reducible refine w_op ?_ | with_reducible refine w_un ?_ | with_reducible refine w_chain ?_ | with_reducible refine w_if ?_ | with_reducible refine w_andV ?_ | with_reducible refine w_orV ?_ | with_reducible refine w_notV ?_
  | with_reducible refine wa_cons ?_ | with_reducible refine wa_nil ?_ | with_reducible refine w_tup ?_ | with_reducible refine w_cb ?_
  | with_reducible refine w_fld ?_ | with_reducible refine w_con ?_ | with_reducible refine w_callN0 ?_ | with_reducible refine w_callN ?_
  | with_reducible refine r2_addI ?_ | with_reducible refine r2_subI ?_ | with_reducible refine r2_ltI ?_ | with_reducible refine r2_leI ?_ | with_reducible refine r2_gtI ?_ | with_reducible refine r2_geI ?_ | with_reducible refine r2_eqI ?_ | with_reducible refine r2_neI ?_ | with_reducible refine r2_eqS ?_ | with_reducible refine r2_neS ?_
  | ((with_reducible apply r2_ix); (focus first | exact .tp | exact .fz | exact .sc | exact .cl CS.same | exact .cl (by assumption) | exact IsL.q (by assumption)); (focus rfl))
  | with_reducible refine w_sl ?_ | with_reducible refine wo_none ?_ | with_reducible refine wo_some ?_
  | ((with_reducible apply rl_len); (focus first | exact .tp | exact .fz | exact .sc | exact .cl CS.same | exact .cl (by assumption) | exact IsL.q (by assumption)))
  | ((with_reducible apply fwE); (focus first | exact .fz | exact .cl CS.same | exact .cl (by assumption)); (focus rfl); (focus infer_instance); (focus infer_instance))
  | with_reducible refine rl_int ?_ | with_reducible refine rl_boolB ?_
  | with_reducible refine r2_isN_yes ?_ | with_reducible refine r2_notN_no ?_ | ((with_reducible apply r2_isN_no); (focus constructor)) | ((with_reducible apply r2_notN_yes); (focus constructor))
  | ((with_reducible apply rl_isY (b := true)); (focus first | exact .int _ | exact .str _ | exact .bl _ | exact .non | exact .tup _ | exact .lst .fz | exact .lst (by assumption)); (focus rfl))
  | ((with_reducible apply rl_isY (b := false)); (focus first | exact .int _ | exact .str _ | exact .bl _ | exact .non | exact .tup _ | exact .lst .fz | exact .lst (by assumption)); (focus rfl))
  | with_reducible refine w_bm ?_ | (refine ⟨tyw_list (ts := _) (by first | exact .cl CS.same | exact .cl (by assumption) | exact .fz), ?_⟩)
  | ((with_reducible apply wg_tup); (focus rfl)) | with_reducible refine wgs_cons ?_ | with_reducible refine wgs_nil ?_
  | with_reducible refine wg_name ?_
  | with_reducible refine wg_subLs ?_ | ((with_reducible apply subw); (focus first | exact CS.same | assumption); (focus rfl))
  | with_reducible refine ite_t ?_ | with_reducible refine ite_f ?_ | with_reducible refine ite_nt ?_ | with_reducible refine ite_nf ?_
  | with_reducible refine ⟨_, rfl, ?_⟩
  | refine ⟨Nat.le_of_ble_eq_true (by rfl), ?_⟩ | with_reducible refine ⟨_, tru_B, ?_⟩ | with_reducible refine ⟨_, tru_I, ?_⟩ | with_reducible refine ⟨_, tru_N, ?_⟩)
local macro_rules | `(tactic| decreasing_trivial) => `(tactic| first
  | with_reducible refine ws_seq ?_ | with_reducible refine ws_set ?_ | with_reducible refine ws_ret ?_ | with_reducible refine ws_retN ?_ | with_reducible refine ws_drop ?_ | with_reducible refine ws_next ?_ | with_reducible refine ws_asg ?_
  | with_reducible refine ws_fldS ?_ | ((with_reducible apply fldE); (focus first | exact CS.same | assumption); (focus exact Nat.le_of_ble_eq_true (by rfl)); (focus infer_instance); (focus infer_instance))
  | with_reducible refine wt_test ?_ | with_reducible refine wt_B ?_ | with_reducible refine wt_and ?_ | with_reducible refine wt_or ?_ | with_reducible refine wt_not ?_ | with_reducible refine wt_tru ?_
  | ((with_reducible apply w_var); (focus rfl))
  | with_reducible refine w_int ?_ | with_reducible refine w_str ?_ | with_reducible refine w_bl ?_ | with_reducible refine w_non ?_ | with_reducible refine w_ref ?_ | with_reducible refine w_ty ?_
  | with_reducible refine w_op ?_ | with_reducible refine w_un ?_ | with_reducible refine w_chain ?_ | with_reducible refine w_if ?_ | with_reducible refine w_andV ?_ | with_reducible refine w_orV ?_ | with_reducible refine w_notV ?_
  | with_reducible refine wa_cons ?_ | with_reducible refine wa_nil ?_ | with_reducible refine w_tup ?_ | with_reducible refine w_cb ?_
  | with_reducible refine w_fld ?_ | with_reducible refine w_con ?_ | with_reducible refine w_callN0 ?_ | with_reducible refine w_callN ?_
  | with_reducible refine r2_addI ?_ | with_reducible refine r2_subI ?_ | with_reducible refine r2_ltI ?_ | with_reducible refine r2_leI ?_ | with_reducible refine r2_gtI ?_ | with_reducible refine r2_geI ?_ | with_reducible refine r2_eqI ?_ | with_reducible refine r2_neI ?_ | with_reducible refine r2_eqS ?_ | with_reducible refine r2_neS ?_
  | ((with_reducible apply r2_ix); (focus first | exact .tp | exact .fz | exact .sc | exact .cl CS.same | exact .cl (by assumption) | exact IsL.q (by assumption)); (focus rfl))
  | with_reducible refine w_sl ?_ | with_reducible refine wo_none ?_ | with_reducible refine wo_some ?_
  | ((with_reducible apply rl_len); (focus first | exact .tp | exact .fz | exact .sc | exact .cl CS.same | exact .cl (by assumption) | exact IsL.q (by assumption)))
  | ((with_reducible apply fwE); (focus first | exact .fz | exact .cl CS.same | exact .cl (by assumption)); (focus rfl); (focus infer_instance); (focus infer_instance))
  | with_reducible refine rl_int ?_ | with_reducible refine rl_boolB ?_
  | with_reducible refine r2_isN_yes ?_ | with_reducible refine r2_notN_no ?_ | ((with_reducible apply r2_isN_no); (focus constructor)) | ((with_reducible apply r2_notN_yes); (focus constructor))
  | ((with_reducible apply rl_isY (b := true)); (focus first | exact .int _ | exact .str _ | exact .bl _ | exact .non | exact .tup _ | exact .lst .fz | exact .lst (by assumption)); (focus rfl))
  | ((with_reducible apply rl_isY (b := false)); (focus first | exact .int _ | exact .str _ | exact .bl _ | exact .non | exact .tup _ | exact .lst .fz | exact .lst (by assumption)); (focus rfl))
  | with_reducible refine w_bm ?_ | (refine ⟨tyw_list (ts := _) (by first | exact .cl CS.same | exact .cl (by assumption) | exact .fz), ?_⟩)
  | ((with_reducible apply wg_tup); (focus rfl)) | with_reducible refine wgs_cons ?_ | with_reducible refine wgs_nil ?_
  | with_reducible refine wg_name ?_
  | with_reducible refine wg_subLs ?_ | ((with_reducible apply subw); (focus first | exact CS.same | assumption); (focus rfl))
  | with_reducible refine ite_t ?_ | with_reducible refine ite_f ?_ | with_reducible refine ite_nt ?_ | with_reducible refine ite_nf ?_
  | with_reducible refine ⟨_, rfl, ?_⟩
  | refine ⟨Nat.le_of_ble_eq_true (by rfl), ?_⟩ | with_reducible refine ⟨_, tru_B, ?_⟩ | with_reducible refine ⟨_, tru_I, ?_⟩ | with_reducible refine ⟨_, tru_N, ?_⟩)
theorem sem_read_network {K : PySem.W.Frag} [Tx K] (E : XK) : ∀ ts cs Kk ke, g_read_network K ts cs Kk ke → WS (ZE E ke) (t_read_network K E) { nx := fun _ cs => Kk dN cs, rt := Kk } (startD N_read_network ts) cs := by
  rintro ts cs Kk ke ⟨x, rfl, n, r, c, b, ls, rfl, n0, n1, hl, hok, r0, r1, c0, c1, hk⟩
  have hN : NetOk n r c ls := ⟨by omega, n1, r0, by omega, c0, c1, hl, fun l h => (hok l h).up n1⟩
  have hsp := net_split (b := b) hN
  have hlen := net_len (b := b) hN
  have llen : (netLines n r c b ls).length = 4 + ls.length := lines_len
  unfold t_read_network
  show WS _ _ _ [some (dS (netTxt n r c b ls)), none, none, none, none, none, none, none] _
  refine ws_seq (ws_set (w_m1 ?_))
  repeat trivial
  refine rm_splitF rfl (Nat.le_trans (Nat.add_le_add_right hlen 2) (by decide)) ?_
  rw [hsp]
  repeat trivial
  refine ⟨_, _, _, _, _, rfl, netLines n r c b ls, 0, "places", 1, 12, n, .fz, rfl, rfl, rfl, rfl, by omega, by omega, by omega, n1, n0, n1, ?_, by decide, by decide, ?_⟩
  · rw [← lit_places]; rfl
  repeat trivial
  refine ⟨_, _, _, _, _, rfl, netLines n r c b ls, 1, "root", 0, n - 1, r, .fz, rfl, rfl, rfl, rfl, by omega, by omega, r0, by omega, r0, by omega, ?_, by decide, by decide, ?_⟩
  · rw [← lit_root]; rfl
  repeat trivial
  refine ⟨_, _, _, _, _, rfl, netLines n r c b ls, 2, "count", 0, 8, c, .fz, rfl, rfl, rfl, rfl, by omega, by omega, c0, by omega, c0, c1, ?_, by decide, by decide, ?_⟩
  · rw [← lit_count]; rfl
  repeat trivial
  refine ⟨_, _, rfl, netLines n r c b ls, 3, b, .fz, rfl, by omega, by omega, rfl, ?_⟩
  repeat trivial
  refine w_lst ?_
  repeat trivial
  intro p hp
  refine ws_seq (ws_forR2 ?_)
  repeat trivial
  rw [List.length_map, llen]
  have en : (((4 + ls.length : Nat) : Int) - 4).toNat = ls.length := by omega
  refine ⟨_, _, rfl, by omega, fun i ds cs' => i ≤ ls.length ∧ (∃ o, ds = [some (dS (netTxt n r c b ls)), some (dL ((netLines n r c b ls).map dS)), some (dI n), some (dI r), some (dI c), some (modeT K b), some (dR p), o]) ∧ cs' = cs.set p (.lst ((ls.take i).map (lotT K))), ⟨Nat.zero_le _, ⟨none, rfl⟩, rfl⟩, ?_, ?_⟩
  · rw [en]
    rintro i ds cs' hi ⟨hi1, ⟨o, rfl⟩, rfl⟩
    have hlt : (ls.take i).length = i := by rw [List.length_take]; omega
    repeat trivial
    rw [List.length_map, hlt]
    refine ite_d (fun h => absurd h (by omega)) (fun _ => ?_)
    repeat trivial
    have hix : atI ((netLines n r c b ls).map dS) (4 + (i : Int)) = some (dS ("lot " ++ lotTxt ls[i])) := by
      have e : (4 + (i : Int)) = ((4 + i : Nat) : Int) := by omega
      rw [e]
      refine atI_natT ?_
      rw [List.getElem?_map, List.getElem?_eq_getElem (by omega)]
      have e2 : (netLines n r c b ls)[4 + i] = "lot " ++ lotTxt ls[i] := by
        unfold netLines
        rw [List.getElem_append_right (by simp)]
        simp
      rw [e2]
      rfl
    refine r2_ix .fz hix ?_
    repeat trivial
    refine ⟨_, _, _, rfl, ls[i], n, _, rfl, rfl, rfl, n1, hok _ (List.getElem_mem hi), ?_⟩
    repeat trivial
    refine rm_append CS.same (by rw [List.length_map, hlt]; exact Nat.lt_of_le_of_lt (show i ≤ 40 by omega) (by decide)) ?_
    refine ⟨hi, ⟨_, rfl⟩, ?_⟩
    rw [CS.set_set, List.take_succ_eq_append_getElem hi, List.map_append]
    rfl
  · rw [en]
    rintro ds cs' ⟨hi1, ⟨o, rfl⟩, rfl⟩
    rw [List.take_of_length_le (Nat.le_refl _)]
    refine ws_ret (w_frz (w_tup (wa_cons (w_makeF (fs := netF K n ls) ?_))))
    repeat trivial
    refine ⟨?_, fun x hx kk hkk => ⟨_, _, _, rfl, x, n, ls, rfl, CS.same, rfl, n0, n1, isL_new (.cl CS.same) hx, hl, hok, by rw [CS.set_set]; exact hkk⟩⟩
    refine wa_cons (w_makeF (fs := demF K r c b) ?_)
    repeat trivial
    refine ⟨?_, fun x hx kk hkk => ⟨_, _, _, _, rfl, x, r, c, b, rfl, CS.same, rfl, rfl, rfl, r0, by omega, c0, c1, by rw [CS.set_set]; exact hkk⟩⟩
    repeat trivial
    exact ⟨_, _, frz_less (cs' := cs) (fun b c hb => by rw [CS.ne (CS.ne_of hb hp)]; exact hb), hk⟩
theorem eqv_lot (l : LotD) : PyData.eqv (.tuple [.int l.price, .tuple (l.mem.map .int), .tuple (l.cand.map .int)]) (.tuple [.int l.price, .tuple (l.mem.map .int), .tuple (l.cand.map .int)]) = true := by
  rw [PyData.eqv, PyData.eqvAll, PyData.eqvAll, PyData.eqvAll, PyData.eqvAll, eqv_intsT, eqv_intsT, PyData.eqv]
  simp
theorem shaped_lot (l : LotD) : SeqAt.shaped (.tuple [.int l.price, .tuple (l.mem.map .int), .tuple (l.cand.map .int)]) = true := by
  simp [SeqAt.shaped, PyData.canLay0, PyData.canLayAll0, PyData.depth, PyData.depthAll, lay_ints, depth_ints]
theorem isD_lot {cs : CS} (l : LotD) : IsD cs (dT [dI l.price, dT (l.mem.map dI), dT (l.cand.map dI)]) (.tuple [.int l.price, .tuple (l.mem.map .int), .tuple (l.cand.map .int)]) := .tup rfl fun i t e h1 h2 => by
  match i with
  | 0 => cases h1; cases h2; exact .int _
  | 1 => cases h1; cases h2; exact IsD.intsT
  | 2 => cases h1; cases h2; exact IsD.intsT
  | i + 3 => simp at h1
theorem sem_Lot_eq {K : PySem.W.Frag} [Tx K] (E : XK) : ∀ ts cs Kk ke, g_Lot_eq K ts cs Kk ke → WS (ZE E ke) (t_Lot_eq K E) { nx := fun _ cs => Kk dN cs, rt := Kk } (startD N_Lot_eq ts) cs := by
  rintro ts cs Kk ke ⟨x, y, rfl, l, rfl, rfl, h1, h2, hk⟩
  unfold t_Lot_eq
  show WS _ _ _ [some (lotT K l), some (lotT K l)] _
  repeat trivial
  refine rl_isC (.ins .fz ⟨cls_Lot⟩ isi_Lot) kit_self ?_
  repeat trivial
  refine r2_eqD (isD_lot l) (isD_lot l) (shaped_lot l) (shaped_lot l) ?_
  rw [eqv_lot]
  exact hk
theorem sem_Network_eq {K : PySem.W.Frag} [Tx K] (E : XK) : ∀ ts cs Kk ke, g_Network_eq K ts cs Kk ke → WS (ZE E ke) (t_Network_eq K E) { nx := fun _ cs => Kk dN cs, rt := Kk } (startD N_Network_eq ts) cs := by
  rintro ts cs Kk ke ⟨x, y, rfl, n, ls, rfl, rfl, hok, hk⟩
  unfold t_Network_eq
  show WS _ _ _ [some (netT K n ls), some (netT K n ls)] _
  repeat trivial
  refine rl_isC (.ins .fz ⟨cls_Network⟩ isi_Network) kit_self ?_
  repeat trivial
  rw [decT rfl]
  repeat trivial
  have e : ls.map (lotT K) = (ls.map LotD.F).map (dO (He.ga K "Lot")) := by rw [List.map_map]; rfl
  rw [e]
  refine r2_eqOT rfl (fun i fs gs h1 h2 => ?_) hk
  rw [h1] at h2
  cases h2
  rw [List.getElem?_map] at h1
  obtain ⟨l, hl, rfl⟩ := Option.map_eq_some_iff.mp h1
  have ho := hok l (List.mem_of_getElem? hl)
  exact ⟨_, _, rfl, l, rfl, rfl, by have := ho.mem_len; omega, by have := ho.cand_len; omega, rfl⟩
theorem eqv_dem (r c : Int) (z : Str) : PyData.eqv (.tuple [.int r, .int c, .str z]) (.tuple [.int r, .int c, .str z]) = true := by
  simp [PyData.eqv, PyData.eqvAll]
theorem shaped_dem (r c : Int) (b : Bool) : SeqAt.shaped (.tuple [.int r, .int c, .str (modeN b)]) = true := by
  have h : PyData.strOk (modeN b) = true := by cases b <;> decide +kernel
  simp [SeqAt.shaped, PyData.canLay0, PyData.canLayAll0, PyData.depth, PyData.depthAll, h]
theorem isD_dem {cs : CS} (r c : Int) (z : Str) : IsD cs (dT [dI r, dI c, dS z]) (.tuple [.int r, .int c, .str z]) := .tup rfl fun i t e h1 h2 => by
  match i with
  | 0 => cases h1; cases h2; exact .int _
  | 1 => cases h1; cases h2; exact .int _
  | 2 => cases h1; cases h2; exact .str _
  | i + 3 => simp at h1
theorem sem_Demand_eq {K : PySem.W.Frag} [Tx K] (E : XK) : ∀ ts cs Kk ke, g_Demand_eq K ts cs Kk ke → WS (ZE E ke) (t_Demand_eq K E) { nx := fun _ cs => Kk dN cs, rt := Kk } (startD N_Demand_eq ts) cs := by
  rintro ts cs Kk ke ⟨x, y, rfl, r, c, b, rfl, rfl, hk⟩
  unfold t_Demand_eq
  show WS _ _ _ [some (demT K r c b), some (demT K r c b)] _
  repeat trivial
  refine rl_isC (.ins .fz ⟨cls_Demand⟩ isi_Demand) kit_self ?_
  repeat trivial
  refine r2_eqD (isD_dem r c (modeN b)) (isD_dem r c (modeN b)) (shaped_dem r c b) (shaped_dem r c b) ?_
  rw [eqv_dem]
  exact hk
theorem sm_int {cs : CS} {n : Nat} {i : Int} : Sm cs (n + 1) (dI i) (dI i) := .inl ⟨i, rfl, rfl⟩
theorem sm_str {cs : CS} {n : Nat} {z : Str} : Sm cs (n + 1) (dS z) (dS z) := .inr (.inl ⟨z, rfl, rfl⟩)
theorem sm_ints {cs : CS} {n : Nat} {ns : List Int} (h : ns.length < 1000) : Sm cs (n + 2) (dT (ns.map dI)) (dT (ns.map dI)) := .inr (.inr (.inr (.inr ⟨_, _, rfl, rfl, rfl, by rw [List.length_map]; exact h, fun i t u h1 h2 => by
  rw [h1] at h2
  cases h2
  rw [List.getElem?_map] at h1
  obtain ⟨z, _, rfl⟩ := Option.map_eq_some_iff.mp h1
  exact sm_int⟩)))
theorem sem_law_lot_is {K : PySem.W.Frag} [Tx K] (E : XK) : ∀ ts cs Kk ke, g_law_lot_is K ts cs Kk ke → WS (ZE E ke) (t_law_lot_is K E) { nx := fun _ cs => Kk dN cs, rt := Kk } (startD N_law_lot_is ts) cs := by
  rintro ts cs Kk ke ⟨x, y, rfl, r, rfl, rfl, hr, hk⟩
  have l1 := hr.lot.mem_len
  have l2 := hr.lot.cand_len
  unfold t_law_lot_is
  unfold rowT
  show WS _ _ _ [some (lotT K r.lot), some (dT [dL (r.g.map dI), dL (r.m.map dI), dI r.c])] _
  repeat trivial
  refine rl_sortedF .fz fun ns hp hs => ?_
  obtain rfl := srt_eq hp hs
  repeat trivial
  refine rl_tup .fz ?_
  repeat trivial
  refine ⟨_, _, rfl, sm_ints (Nat.lt_of_le_of_lt l1 (by decide)), ?_⟩
  repeat trivial
  refine ⟨_, _, rfl, sm_int, ?_⟩
  repeat trivial
  refine rl_sortedF .fz fun ns hp hs => ?_
  obtain rfl := srt_eq hp hs
  repeat trivial
  refine rl_tup .fz ?_
  repeat trivial
  exact ⟨_, _, rfl, sm_ints (Nat.lt_of_le_of_lt l2 (by decide)), hk⟩
theorem sem_law_demand_is {K : PySem.W.Frag} [Tx K] (E : XK) : ∀ ts cs Kk ke, g_law_demand_is K ts cs Kk ke → WS (ZE E ke) (t_law_demand_is K E) { nx := fun _ cs => Kk dN cs, rt := Kk } (startD N_law_demand_is ts) cs := by
  rintro ts cs Kk ke ⟨x, y, z, w, rfl, r, c, b, rfl, rfl, rfl, rfl, hk⟩
  obtain ⟨u, hu⟩ := con_mode (K := K) b
  unfold t_law_demand_is
  show WS _ _ _ [some (demT K r c b), some (dI r), some (dI c), some (dS (modeN b))] _
  repeat trivial
  refine ⟨_, _, rfl, sm_int, ?_⟩
  repeat trivial
  refine ⟨_, _, rfl, sm_int, ?_⟩
  repeat trivial
  refine ⟨_, [], dS (modeN b), _, u, .fz, cls_mode b, hu, rfl, fun _ => rfl, ?_⟩
  repeat trivial
  exact ⟨_, _, rfl, sm_str, hk⟩
theorem sem_law_network_is {K : PySem.W.Frag} [Tx K] (E : XK) : ∀ ts cs Kk ke, g_law_network_is K ts cs Kk ke → WS (ZE E ke) (t_law_network_is K E) { nx := fun _ cs => Kk dN cs, rt := Kk } (startD N_law_network_is ts) cs := by
  rintro ts cs Kk ke ⟨x, y, z, rfl, n, rs, rfl, rfl, rfl, hl, hok, hk⟩
  unfold t_law_network_is
  show WS _ _ _ [some (netT K n (rs.map RowD.lot)), some (dI n), some (dL (rs.map rowT)), none] _
  repeat trivial
  refine ⟨_, _, rfl, sm_int, ?_⟩
  repeat trivial
  rw [show decide ((((rs.map RowD.lot).map (lotT K)).length : Int) = ((rs.map rowT).length : Int)) = true from decide_eq_true (by simp)]
  repeat decreasing_trivial
  refine w_frz (w_lcR1 (gonly_name (by simp)) ?_)
  repeat trivial
  rw [List.length_map]
  refine ⟨by omega, by omega, lck_rng (lo := 0) (fun _ => none) (Nat.lt_of_le_of_lt (show (rs.length : Int).toNat ≤ 41 by omega) (by decide)) ?_ ?_⟩
  · intro D acc i hD hi
    have hi2 : i < rs.length := by omega
    have hro := hok _ (List.getElem_mem hi2)
    repeat trivial
    refine r2_ix .tp (atI_z (by rw [List.getElem?_map, List.getElem?_map, List.getElem?_eq_getElem hi2]; rfl)) ?_
    repeat trivial
    refine r2_ix .fz (atI_z (by rw [List.getElem?_map, List.getElem?_eq_getElem hi2]; rfl)) ?_
    repeat trivial
    refine ⟨_, _, rfl, rs[i], rfl, rfl, hro, ?_⟩
    repeat trivial
  · intro D hD
    refine ⟨_, _, frz_new hD, ?_⟩
    repeat trivial
    rw [show (List.range (rs.length : Int).toNat).filterMap (fun (_ : Nat) => (none : Option Ty)) = [] from by simp]
    repeat trivial
theorem sem_law_refused {K : PySem.W.Frag} [Tx K] (E : XK) : ∀ ts cs Kk ke, g_law_refused K ts cs Kk ke → WS (ZE E ke) (t_law_refused K E) { nx := fun _ cs => Kk dN cs, rt := Kk } (startD N_law_refused ts) cs := by
  rintro ts cs Kk ke ⟨x, y, rfl, n, r, c, b, ls, rfl, rfl, n0, n1, hl, hok, hr, r1, c0, c1, hk⟩
  unfold t_law_refused
  show WS _ _ _ [some (netT K n ls), some (demT K r c b), none] _
  refine ws_seq (ws_tryAs fun XE => ?_)
  repeat trivial
  refine ⟨_, _, rfl, n, r, c, b, ls, rfl, rfl, n0, n1, hl, hok, by omega, r1, c0, c1, fun h => absurd h (by omega), fun _ => ⟨true, exm_PlaceOutOfRange_PlaceOutOfRange, fun _ a cls d _ _ => ?_, fun h => by cases h⟩⟩
  show WS _ _ _ [none, none, some (dXc a cls d _)] _
  repeat trivial
  refine w_xf (e := ⟨.ref (He.ga K "PlaceOutOfRange"), [("place", dI r)]⟩) (t := dI r) ?_
  repeat decreasing_trivial
  refine ⟨rfl, rfl, rfl, ?_⟩
  repeat trivial
theorem sem_law_back {K : PySem.W.Frag} [Tx K] (E : XK) : ∀ ts cs Kk ke, g_law_back K ts cs Kk ke → WS (ZE E ke) (t_law_back K E) { nx := fun _ cs => Kk dN cs, rt := Kk } (startD N_law_back ts) cs := by
  rintro ts cs Kk ke ⟨x, rfl, c, rfl, hc, hk⟩
  unfold t_law_back
  unfold caseT
  show WS _ _ _ [some (dT [dI c.n, dI c.top, dI c.many, dS (modeN c.b), dL (c.rows.map rowT)]), none, none, none, none] _
  have n0 := hc.n1
  have n1 := hc.n2
  have t0 := hc.t0
  have t1 := hc.t1
  have m0 := hc.m0
  have m1 := hc.m1
  have hl : c.lots.length ≤ 40 := by unfold CaseD.lots; rw [List.length_map]; exact hc.len
  have hlok : ∀ l ∈ c.lots, l.Ok c.n := fun l hl => by
    obtain ⟨r, hr, rfl⟩ := List.mem_map.mp hl
    exact (hc.rok r hr).lot
  have hlok12 : ∀ l ∈ c.lots, l.Ok 12 := fun l hl => (hlok l hl).up n1
  have hrok12 : ∀ r ∈ c.rows, r.Ok 12 := fun r hr => ⟨(hc.rok r hr).nd, (hc.rok r hr).len, fun z hz => ⟨((hc.rok r hr).rng z hz).1, by have := ((hc.rok r hr).rng z hz).2; omega⟩, (hc.rok r hr).mnd, (hc.rok r hr).mne, (hc.rok r hr).sub, (hc.rok r hr).p0, (hc.rok r hr).p1⟩
  repeat trivial
  refine ⟨_, _, _, _, _, rfl, c, hc, rfl, rfl, rfl, rfl, rfl, ?_⟩
  repeat trivial
  refine ⟨_, _, rfl, c.n, c.rows, rfl, rfl, n0, n1, hc.len, hc.rok, ?_⟩
  repeat trivial
  refine ⟨_, _, _, rfl, c.top, c.many, c.b, rfl, rfl, rfl, t0, by omega, m0, m1, ?_⟩
  repeat trivial
  refine ⟨_, _, rfl, c.n, c.top, c.many, c.b, c.lots, rfl, rfl, n0, n1, hl, hlok12, t0, by omega, m0, m1, fun _ => ?_, fun h => absurd t1 h⟩
  repeat trivial
  refine ⟨_, _, rfl, sm_str, ?_⟩
  repeat trivial
  refine ⟨_, rfl, c.n, c.top, c.many, c.b, c.lots, rfl, n0, n1, hl, hlok, t0, t1, m0, m1, ?_⟩
  repeat trivial
  refine ite_nd (fun h => absurd rfl h) (fun _ => ?_)
  repeat trivial
  refine ⟨_, _, _, rfl, c.n, c.rows, rfl, rfl, rfl, hc.len, hrok12, ?_⟩
  repeat trivial
  refine ⟨_, _, _, _, rfl, c.top, c.many, c.b, rfl, rfl, rfl, rfl, ?_⟩
  repeat trivial
  have hne : ("spread" : Str) ≠ "gather" := by decide
  have kg : PySem.W.kitOne K (.ref (He.ga K (modeC c.b))) (.ref (He.ga K "Gather")) = some c.b := by
    cases c.b
    · exact kit_Spread_Gather
    · exact kit_self
  have ks : PySem.W.kitOne K (.ref (He.ga K (modeC c.b))) (.ref (He.ga K "Spread")) = some (!c.b) := by
    cases c.b
    · exact kit_self
    · exact kit_Gather_Spread
  have im : IsiC K (He.ga K (modeC c.b)) := by
    cases c.b
    · exact isi_Spread
    · exact isi_Gather
  have e1 : decide (modeN c.b = "gather") = c.b := by cases c.b <;> decide
  have e2 : decide (modeN c.b = "spread") = !c.b := by cases c.b <;> decide
  refine rl_isC (.ins .fz ⟨cls_mode c.b⟩ im) kg ?_
  repeat trivial
  rw [e1]
  refine r2_neB ?_
  rw [decT rfl]
  repeat trivial
  refine rl_isC (.ins .fz ⟨cls_mode c.b⟩ im) ks ?_
  repeat trivial
  rw [e2]
  refine r2_neB ?_
  rw [decT rfl]
  repeat trivial
  refine r2_eqO ⟨_, _, rfl, c.n, c.lots, rfl, rfl, hlok12, rfl⟩ ?_
  repeat trivial
  refine ⟨_, rfl, true, rfl, ?_⟩
  repeat trivial
  refine r2_eqO ⟨_, _, rfl, c.top, c.many, c.b, rfl, rfl, rfl⟩ ?_
  repeat trivial
  refine ⟨_, rfl, true, rfl, ?_⟩
  repeat trivial
  refine ⟨_, _, rfl, c.n, c.top, c.many, c.b, c.lots, rfl, rfl, n0, n1, hl, hlok12, t0, by omega, m0, m1, fun _ => ?_, fun h => absurd t1 h⟩
  repeat trivial
  exact ⟨_, _, rfl, sm_str, hk⟩
end K63

set_option Elab.async false
set_option linter.all false
set_option maxRecDepth 100000
set_option maxHeartbeats 2000000
set_option autoImplicit false
namespace K63
open PySem PySem.Spec PyProof.Rows L2 S
local macro_rules | `(tactic| trivial) => `(tactic| first
  | with_reducible refine ws_seq ?_ | with_reducible refine ws_set ?_ | with_reducible refine ws_ret ?_ | with_reducible refine ws_retN ?_ | with_reducible refine ws_drop ?_ | with_reducible refine ws_if ?_ | with_reducible refine ws_next ?_ | with_reducible refine ws_asg ?_
  | with_reducible refine ws_fldS ?_ | ((with_reducible apply fldE); (focus first | exact CS.same | assumption); (focus exact Nat.le_of_ble_eq_true (by rfl)); (focus infer_instance); (focus infer_instance))
  | with_reducible refine wt_test ?_ | with_reducible refine wt_B ?_ | with_reducible refine wt_and ?_ | with_reducible refine wt_or ?_ | with_reducible refine wt_not ?_ | with_reducible refine wt_tru ?_
  | ((with_reducible apply w_var); (focus rfl))
  | with_reducible refine w_int ?_ | with_reducible refine w_str ?_ | with_reducible refine w_bl ?_ | with_reducible refine w_non ?_ | with_reducible refine w_ref ?_ | with_reducible refine w_ty ?_
  | with_reducible refine w_op ?_ | with_reducible refine w_un ?_ | with_reducible refine w_chain ?_ | with_reducible refine w_if ?_ | with_reducible refine w_andV ?_ | with_reducible refine w_orV ?_ | with_reducible refine w_notV ?_
  | with_reducible refine wa_cons ?_ | with_reducible refine wa_nil ?_ | with_reducible refine w_tup ?_ | with_reducible refine w_cb ?_
  | with_reducible refine w_fld ?_ | with_reducible refine w_con ?_ | with_reducible refine w_callN0 ?_ | with_reducible refine w_callN ?_
  | with_reducible refine r2_addI ?_ | with_reducible refine r2_subI ?_ | with_reducible refine r2_ltI ?_ | with_reducible refine r2_leI ?_ | with_reducible refine r2_gtI ?_ | with_reducible refine r2_geI ?_ | with_reducible refine r2_eqI ?_ | with_reducible refine r2_neI ?_ | with_reducible refine r2_eqS ?_ | with_reducible refine r2_neS ?_
  | ((with_reducible apply r2_ix); (focus first | exact .tp | exact .fz | exact .sc | exact .cl CS.same | exact .cl (by assumption) | exact IsL.q (by assumption)); (focus rfl))
  | with_reducible refine w_sl ?_ | with_reducible refine wo_none ?_ | with_reducible refine wo_some ?_
  | ((with_reducible apply rl_len); (focus first | exact .tp | exact .fz | exact .sc | exact .cl CS.same | exact .cl (by assumption) | exact IsL.q (by assumption)))
  | ((with_reducible apply fwE); (focus first | exact .fz | exact .cl CS.same | exact .cl (by assumption)); (focus rfl); (focus infer_instance); (focus infer_instance))
  | with_reducible refine rl_int ?_ | with_reducible refine rl_boolB ?_
  | with_reducible refine r2_isN_yes ?_ | with_reducible refine r2_notN_no ?_ | ((with_reducible apply r2_isN_no); (focus constructor)) | ((with_reducible apply r2_notN_yes); (focus constructor))
  | ((with_reducible apply rl_isY (b := true)); (focus first | exact .int _ | exact .str _ | exact .bl _ | exact .non | exact .tup _ | exact .lst .fz | exact .lst (by assumption)); (focus rfl))
  | ((with_reducible apply rl_isY (b := false)); (focus first | exact .int _ | exact .str _ | exact .bl _ | exact .non | exact .tup _ | exact .lst .fz | exact .lst (by assumption)); (focus rfl))
  | with_reducible refine w_bm ?_ | (refine ⟨tyw_list (ts := _) (by first | exact .cl CS.same | exact .cl (by assumption) | exact .fz), ?_⟩)
  | ((with_reducible apply wg_tup); (focus rfl)) | with_reducible refine wgs_cons ?_ | with_reducible refine wgs_nil ?_
  | with_reducible refine wg_name ?_
  | with_reducible refine wg_subLs ?_ | ((with_reducible apply subw); (focus first | exact CS.same | assumption); (focus rfl))
  | with_reducible refine ite_t ?_ | with_reducible refine ite_f ?_ | with_reducible refine ite_nt ?_ | with_reducible refine ite_nf ?_
  | with_reducible refine ⟨_, rfl, ?_⟩
  | refine ⟨Nat.le_of_ble_eq_true (by rfl), ?_⟩ | with_reducible refine ⟨_, tru_B, ?_⟩ | with_reducible refine ⟨_, tru_I, ?_⟩ | with_reducible refine ⟨_, tru_N, ?_⟩)
local macro_rules | `(tactic| decreasing_trivial) => `(tactic| first
  | with_reducible refine ws_seq ?_ | with_reducible refine ws_set ?_ | with_reducible refine ws_ret ?_ | with_reducible refine ws_retN ?_ | with_reducible refine ws_drop ?_ | with_reducible refine ws_next ?_ | with_reducible refine ws_asg ?_
  | with_reducible refine ws_fldS ?_ | ((with_reducible apply fldE); (focus first | exact CS.same | assumption); (focus exact Nat.le_of_ble_eq_true (by rfl)); (focus infer_instance); (focus infer_instance))
  | with_reducible refine wt_test ?_ | with_reducible refine wt_B ?_ | with_reducible refine wt_and ?_ | with_reducible refine wt_or ?_ | with_reducible refine wt_not ?_ | with_reducible refine wt_tru ?_
  | ((with_reducible apply w_var); (focus rfl))
  | with_reducible refine w_int ?_ | with_reducible refine w_str ?_ | with_reducible refine w_bl ?_ | with_reducible refine w_non ?_ | with_reducible refine w_ref ?_ | with_reducible refine w_ty ?_
  | with_reducible refine w_op ?_ | with_reducible refine w_un ?_ | with_reducible refine w_chain ?_ | with_reducible refine w_if ?_ | with_reducible refine w_andV ?_ | with_reducible refine w_orV ?_ | with_reducible refine w_notV ?_
  | with_reducible refine wa_cons ?_ | with_reducible refine wa_nil ?_ | with_reducible refine w_tup ?_ | with_reducible refine w_cb ?_
  | with_reducible refine w_fld ?_ | with_reducible refine w_con ?_ | with_reducible refine w_callN0 ?_ | with_reducible refine w_callN ?_
  | with_reducible refine r2_addI ?_ | with_reducible refine r2_subI ?_ | with_reducible refine r2_ltI ?_ | with_reducible refine r2_leI ?_ | with_reducible refine r2_gtI ?_ | with_reducible refine r2_geI ?_ | with_reducible refine r2_eqI ?_ | with_reducible refine r2_neI ?_ | with_reducible refine r2_eqS ?_ | with_reducible refine r2_neS ?_
  | ((with_reducible apply r2_ix); (focus first | exact .tp | exact .fz | exact .sc | exact .cl CS.same | exact .cl (by assumption) | exact IsL.q (by assumption)); (focus rfl))
  | with_reducible refine w_sl ?_ | with_reducible refine wo_none ?_ | with_reducible refine wo_some ?_
  | ((with_reducible apply rl_len); (focus first | exact .tp | exact .fz | exact .sc | exact .cl CS.same | exact .cl (by assumption) | exact IsL.q (by assumption)))
  | ((with_reducible apply fwE); (focus first | exact .fz | exact .cl CS.same | exact .cl (by assumption)); (focus rfl); (focus infer_instance); (focus infer_instance))
  | with_reducible refine rl_int ?_ | with_reducible refine rl_boolB ?_
  | with_reducible refine r2_isN_yes ?_ | with_reducible refine r2_notN_no ?_ | ((with_reducible apply r2_isN_no); (focus constructor)) | ((with_reducible apply r2_notN_yes); (focus constructor))
  | ((with_reducible apply rl_isY (b := true)); (focus first | exact .int _ | exact .str _ | exact .bl _ | exact .non | exact .tup _ | exact .lst .fz | exact .lst (by assumption)); (focus rfl))
  | ((with_reducible apply rl_isY (b := false)); (focus first | exact .int _ | exact .str _ | exact .bl _ | exact .non | exact .tup _ | exact .lst .fz | exact .lst (by assumption)); (focus rfl))
  | with_reducible refine w_bm ?_ | (refine ⟨tyw_list (ts := _) (by first | exact .cl CS.same | exact .cl (by assumption) | exact .fz), ?_⟩)
  | ((with_reducible apply wg_tup); (focus rfl)) | with_reducible refine wgs_cons ?_ | with_reducible refine wgs_nil ?_
  | with_reducible refine wg_name ?_
  | with_reducible refine wg_subLs ?_ | ((with_reducible apply subw); (focus first | exact CS.same | assumption); (focus rfl))
  | with_reducible refine ite_t ?_ | with_reducible refine ite_f ?_ | with_reducible refine ite_nt ?_ | with_reducible refine ite_nf ?_
  | with_reducible refine ⟨_, rfl, ?_⟩
  | refine ⟨Nat.le_of_ble_eq_true (by rfl), ?_⟩ | with_reducible refine ⟨_, tru_B, ?_⟩ | with_reducible refine ⟨_, tru_I, ?_⟩ | with_reducible refine ⟨_, tru_N, ?_⟩)
theorem none_law_same {K : PySem.W.Frag} : ∀ ts cs Kk ke, g_law_same K 0 ts cs Kk ke → False := fun _ _ _ _ ⟨_, _, _, h, _⟩ => h
theorem sem_law {K : PySem.W.Frag} [Tx K] (E : XK) : ∀ ts cs Kk ke, g_law K ts cs Kk ke → WS (ZE E ke) (t_law K E) { nx := fun _ cs => Kk dN cs, rt := Kk } (startD N_law ts) cs := by
  rintro ts cs Kk ke ⟨x, rfl, ns, rfl, hs, hk⟩
  unfold t_law
  show WS _ _ _ [some (dKs K (ns.map dI)), none, none, none, none, none, none] _
  repeat trivial
  refine ⟨_, rfl, ns, rfl, hs, fun a us ha hu => ?_⟩
  repeat trivial
  refine ⟨_, rfl, a, us, 0, rfl, CS.same, hu, by omega, fun c1 u1 h1 hu1 => ?_⟩
  repeat trivial
  refine ⟨_, rfl, a, u1, 0 + 1010, rfl, CS.same, hu1, by omega, fun c2 u2 h2 hu2 => ?_⟩
  refine ws_seq (ws_forL (w_lstF ?_))
  repeat trivial
  refine ⟨[caseT c1, caseT c2, caseT c1], .fz, fun i ds cs' => i ≤ 3 ∧ (∃ o1 o2 o3, ds = [some (dKs K (ns.map dI)), some (dR a), some (caseT c1), some (caseT c2), o1, o2, o3]) ∧ ∃ us, cs' a = some (.lst us) ∧ Src us (3000 + i), ⟨by omega, ⟨_, _, _, rfl⟩, u2, CS.same, hu2.mono (by omega)⟩, fun _ _ _ _ => .fz, ?_, ?_⟩
  · rintro i t ds cs' ht ⟨hi, ⟨o1, o2, o3, rfl⟩, us, hus, hsrc⟩
    obtain ⟨c, hc, rfl⟩ : ∃ c : CaseD, c.Ok ∧ t = caseT c := by
      have hm := List.mem_of_getElem? ht
      simp only [List.mem_cons, List.not_mem_nil, or_false] at hm
      rcases hm with rfl | rfl | rfl
      · exact ⟨c1, h1, rfl⟩
      · exact ⟨c2, h2, rfl⟩
      · exact ⟨c1, h1, rfl⟩
    have hi3 : i + 1 ≤ 3 := by
      have := (List.getElem?_eq_some_iff.mp ht).1
      simp at this
      omega
    have n0 := hc.n1
    have n1 := hc.n2
    have m0 := hc.m0
    have m1 := hc.m1
    repeat trivial
    refine ⟨_, rfl, c, rfl, hc, ?_⟩
    unfold caseT
    repeat trivial
    refine ite_d (fun hlt => ?_) (fun _ => ?_)
    · repeat trivial
      refine ⟨_, _, rfl, a, us, 3000 + i, _, rfl, rfl, by omega, by omega, hus, hsrc, by omega, fun v us' v0 v1 hs' => ?_⟩
      repeat trivial
      refine ⟨_, _, rfl, c.n, c.rows, rfl, rfl, n0, n1, hc.len, hc.rok, ?_⟩
      repeat trivial
      refine ⟨_, _, _, rfl, c.n + v, c.many, c.b, rfl, rfl, rfl, by omega, by omega, m0, m1, ?_⟩
      repeat trivial
      refine ⟨_, _, rfl, c.n, c.n + v, c.many, c.b, c.lots, rfl, rfl, n0, n1, by unfold CaseD.lots; rw [List.length_map]; exact hc.len, fun l hl => ?_, by omega, by omega, m0, m1, ?_⟩
      · obtain ⟨r, hr, rfl⟩ := List.mem_map.mp hl
        exact (hc.rok r hr).lot.up n1
      repeat trivial
      refine ⟨_, _, rfl, .inr (.inr (.inr (.inr ⟨_, _, rfl, rfl, rfl, by show 2 < 1000; decide, fun j t u e1 e2 => ?_⟩))), ?_⟩
      · rw [e1] at e2
        cases e2
        match j with
        | 0 => cases e1; exact sm_str
        | 1 => cases e1; exact sm_int
        | j + 2 => simp at e1
      repeat trivial
      exact ⟨hi3, ⟨_, _, _, rfl⟩, us', CS.same, hs'.mono (by omega)⟩
    · repeat trivial
      exact ⟨hi3, ⟨_, _, _, rfl⟩, us, hus, hsrc.mono (by omega)⟩
  · rintro ds cs' ⟨hi, ⟨o1, o2, o3, rfl⟩, us, hus, hsrc⟩
    repeat trivial
    exact hk _
theorem law_true {K : PySem.W.Frag} (ns : List Int) (cs : CS) (hs : (∀ z ∈ ns, z.natAbs.log2 ≤ 1048576) ∧ ns.length ≤ 63) : g_law K [dKs K (ns.map dI)] cs (fun t _ => t = dB true) fun _ _ => False := ⟨_, rfl, ns, rfl, hs, fun _ => rfl⟩
end K63

set_option Elab.async false
set_option linter.all false
set_option maxRecDepth 100000
set_option maxHeartbeats 4000000
set_option autoImplicit false
namespace K63
open PySem PySem.Spec PyProof.Rows L2 S
section
variable {w : World} {K : PySem.W.Frag} [Tx K] {mg : Str → Option Value} {base : Heap}
theorem okx_PlaceOutOfRange (M : MgOk K mg) : FnOk PP w K mg base (L2.CX PP w) 1 (at_PlaceOutOfRange_init K) (fdOf K (at_PlaceOutOfRange_init K)) ["self", "place"] (spExc K (He.ga K "PlaceOutOfRange") "place") :=
  ok_exc (N := ["self", "place", "__class__"]) X_PlaceOutOfRange rfl rfl (NdefX.nscope_by (by decide +kernel)) na_PlaceOutOfRange_place rfl rfl rfl (Z_super M) (by decide +kernel) (fun _ _ _ => ⟨_, rfl⟩) (fun _ => rfl)
theorem ok_all_different (M : MgOk K mg) : Ok_all_different PP w K mg base := F_all_different.ok sc_all_different (toSp.len (sg1_len)) (fun cdv A outer s H vs Q E hr hsp => ⟨_, der_all_different M  hr, enter hsp (fun ts cs Kk ke hg => sem_all_different E ts cs Kk ke hg)⟩)
theorem ok_Lot_init (M : MgOk K mg) : Ok_Lot_init PP w K mg base := F_Lot_init.ok sc_Lot_init (toSp.len (sg4_len)) (fun cdv A outer s H vs Q E hr hsp => ⟨_, der_Lot_init M (ok_all_different M) hr, enter hsp (fun ts cs Kk ke hg => sem_Lot_init E ts cs Kk ke hg)⟩)
theorem ok_check_place (M : MgOk K mg) : Ok_check_place PP w K mg base := F_check_place.ok sc_check_place (toSp.len (sg2_len)) (fun cdv A outer s H vs Q E hr hsp => ⟨_, der_check_place M (okx_PlaceOutOfRange M) hr, enter hsp (fun ts cs Kk ke hg => sem_check_place E ts cs Kk ke hg)⟩)
theorem ok_check_size (M : MgOk K mg) : Ok_check_size PP w K mg base := F_check_size.ok sc_check_size (toSp.len (sg1_len)) (fun cdv A outer s H vs Q E hr hsp => ⟨_, der_check_size M  hr, enter hsp (fun ts cs Kk ke hg => sem_check_size E ts cs Kk ke hg)⟩)
theorem ok_Network_init (M : MgOk K mg) : Ok_Network_init PP w K mg base := F_Network_init.ok sc_Network_init (toSp.len (sg3_len)) (fun cdv A outer s H vs Q E hr hsp => ⟨_, der_Network_init M (ok_check_size M) (ok_check_place M) hr, enter hsp (fun ts cs Kk ke hg => sem_Network_init E ts cs Kk ke hg)⟩)
theorem ok_Demand_init (M : MgOk K mg) : Ok_Demand_init PP w K mg base := F_Demand_init.ok sc_Demand_init (toSp.len (sg4_len)) (fun cdv A outer s H vs Q E hr hsp => ⟨_, der_Demand_init M (ok_check_place M) hr, enter hsp (fun ts cs Kk ke hg => sem_Demand_init E ts cs Kk ke hg)⟩)
theorem ok_number_in (M : MgOk K mg) : Ok_number_in PP w K mg base := F_number_in.ok sc_number_in (toSp.len (sg3_len)) (fun cdv A outer s H vs Q E hr hsp => ⟨_, der_number_in M  hr, enter hsp (fun ts cs Kk ke hg => sem_number_in E ts cs Kk ke hg)⟩)
theorem ok_Lot_str (M : MgOk K mg) : Ok_Lot_str PP w K mg base := F_Lot_str.ok sc_Lot_str (toSp.len (sg1_len)) (fun cdv A outer s H vs Q E hr hsp => ⟨_, der_Lot_str M  hr, enter hsp (fun ts cs Kk ke hg => sem_Lot_str E ts cs Kk ke hg)⟩)
theorem ok_write_network (M : MgOk K mg) : Ok_write_network PP w K mg base := F_write_network.ok sc_write_network (toSp.len (sg2_len)) (fun cdv A outer s H vs Q E hr hsp => ⟨_, der_write_network M (ok_check_place M) (ok_Lot_str M) hr, enter hsp (fun ts cs Kk ke hg => sem_write_network E ts cs Kk ke hg)⟩)
theorem ok_named_number (M : MgOk K mg) : Ok_named_number PP w K mg base := F_named_number.ok sc_named_number (toSp.len (sg5_len)) (fun cdv A outer s H vs Q E hr hsp => ⟨_, der_named_number M (ok_number_in M) hr, enter hsp (fun ts cs Kk ke hg => sem_named_number E ts cs Kk ke hg)⟩)
theorem ok_mode_in (M : MgOk K mg) : Ok_mode_in PP w K mg base := F_mode_in.ok sc_mode_in (toSp.len (sg2_len)) (fun cdv A outer s H vs Q E hr hsp => ⟨_, der_mode_in M  hr, enter hsp (fun ts cs Kk ke hg => sem_mode_in E ts cs Kk ke hg)⟩)
theorem ok_leading_places (M : MgOk K mg) : Ok_leading_places PP w K mg base := F_leading_places.ok sc_leading_places (toSp.len (sg2_len)) (fun cdv A outer s H vs Q E hr hsp => ⟨_, der_leading_places M (ok_number_in M) hr, enter hsp (fun ts cs Kk ke hg => sem_leading_places E ts cs Kk ke hg)⟩)
theorem ok_lot_in (M : MgOk K mg) : Ok_lot_in PP w K mg base := F_lot_in.ok sc_lot_in (toSp.len (sg3_len)) (fun cdv A outer s H vs Q E hr hsp => ⟨_, der_lot_in M (ok_leading_places M) (ok_number_in M) (ok_Lot_init M) (ok_Lot_str M) hr, enter hsp (fun ts cs Kk ke hg => sem_lot_in E ts cs Kk ke hg)⟩)
theorem ok_read_network (M : MgOk K mg) : Ok_read_network PP w K mg base := F_read_network.ok sc_read_network (toSp.len (sg1_len)) (fun cdv A outer s H vs Q E hr hsp => ⟨_, der_read_network M (ok_named_number M) (ok_mode_in M) (ok_lot_in M) (ok_Network_init M) (ok_Demand_init M) hr, enter hsp (fun ts cs Kk ke hg => sem_read_network E ts cs Kk ke hg)⟩)
theorem ok_law_source (M : MgOk K mg) : Ok_law_source PP w K mg base := F_law_source.ok sc_law_source (toSp.len (sg1_len)) (fun cdv A outer s H vs Q E hr hsp => ⟨_, der_law_source M  hr, enter hsp (fun ts cs Kk ke hg => sem_law_source E ts cs Kk ke hg)⟩)
theorem ok_law_mixed (M : MgOk K mg) : Ok_law_mixed PP w K mg base := F_law_mixed.ok sc_law_mixed (toSp.len (sg2_len)) (fun cdv A outer s H vs Q E hr hsp => ⟨_, der_law_mixed M  hr, enter hsp (fun ts cs Kk ke hg => sem_law_mixed E ts cs Kk ke hg)⟩)
theorem ok_law_draw (M : MgOk K mg) : Ok_law_draw PP w K mg base := F_law_draw.ok sc_law_draw (toSp.len (sg2_len)) (fun cdv A outer s H vs Q E hr hsp => ⟨_, der_law_draw M (ok_law_mixed M) hr, enter hsp (fun ts cs Kk ke hg => sem_law_draw E ts cs Kk ke hg)⟩)
theorem ok_law_number (M : MgOk K mg) : Ok_law_number PP w K mg base := F_law_number.ok sc_law_number (toSp.len (sg1_len)) (fun cdv A outer s H vs Q E hr hsp => ⟨_, der_law_number M  hr, enter hsp (fun ts cs Kk ke hg => sem_law_number E ts cs Kk ke hg)⟩)
theorem ok_law_same (M : MgOk K mg) : ∀ n, Ok_law_same PP w K mg base n
  | 0 => fn_none none_law_same
  | n + 1 => F_law_same.ok sc_law_same (toSp.len (sg2_len)) (fun cdv A outer s H vs Q E hr hsp => ⟨_, der_law_same M (ok_law_number M) (ok_law_same M n) hr, enter hsp (fun ts cs Kk ke hg => sem_law_same E n ts cs Kk ke hg)⟩)
theorem ok_law_pick (M : MgOk K mg) : Ok_law_pick PP w K mg base := F_law_pick.ok sc_law_pick (toSp.len (sg2_len)) (fun cdv A outer s H vs Q E hr hsp => ⟨_, der_law_pick M (ok_law_draw M) hr, enter hsp (fun ts cs Kk ke hg => sem_law_pick E ts cs Kk ke hg)⟩)
theorem ok_law_shuffled (M : MgOk K mg) : Ok_law_shuffled PP w K mg base := F_law_shuffled.ok sc_law_shuffled (toSp.len (sg2_len)) (fun cdv A outer s H vs Q E hr hsp => ⟨_, der_law_shuffled M (ok_law_draw M) hr, enter hsp (fun ts cs Kk ke hg => sem_law_shuffled E ts cs Kk ke hg)⟩)
theorem ok_law_group (M : MgOk K mg) : Ok_law_group PP w K mg base := F_law_group.ok sc_law_group (toSp.len (sg2_len)) (fun cdv A outer s H vs Q E hr hsp => ⟨_, der_law_group M (ok_law_shuffled M) (ok_law_draw M) hr, enter hsp (fun ts cs Kk ke hg => sem_law_group E ts cs Kk ke hg)⟩)
theorem ok_law_menu (M : MgOk K mg) : Ok_law_menu PP w K mg base := F_law_menu.ok sc_law_menu (toSp.len (sg3_len)) (fun cdv A outer s H vs Q E hr hsp => ⟨_, der_law_menu M (ok_law_pick M) (ok_law_shuffled M) (ok_law_draw M) hr, enter hsp (fun ts cs Kk ke hg => sem_law_menu E ts cs Kk ke hg)⟩)
theorem ok_law_cost (M : MgOk K mg) : Ok_law_cost PP w K mg base := F_law_cost.ok sc_law_cost (toSp.len (sg1_len)) (fun cdv A outer s H vs Q E hr hsp => ⟨_, der_law_cost M (ok_law_draw M) hr, enter hsp (fun ts cs Kk ke hg => sem_law_cost E ts cs Kk ke hg)⟩)
theorem ok_law_row (M : MgOk K mg) : Ok_law_row PP w K mg base := F_law_row.ok sc_law_row (toSp.len (sg3_len)) (fun cdv A outer s H vs Q E hr hsp => ⟨_, der_law_row M (ok_law_group M) (ok_law_draw M) (ok_law_menu M) (ok_law_cost M) hr, enter hsp (fun ts cs Kk ke hg => sem_law_row E ts cs Kk ke hg)⟩)
theorem ok_law_rows (M : MgOk K mg) : Ok_law_rows PP w K mg base := F_law_rows.ok sc_law_rows (toSp.len (sg4_len)) (fun cdv A outer s H vs Q E hr hsp => ⟨_, der_law_rows M (ok_law_draw M) (ok_law_row M) hr, enter hsp (fun ts cs Kk ke hg => sem_law_rows E ts cs Kk ke hg)⟩)
theorem ok_law_lot_text (M : MgOk K mg) : Ok_law_lot_text PP w K mg base := F_law_lot_text.ok sc_law_lot_text (toSp.len (sg1_len)) (fun cdv A outer s H vs Q E hr hsp => ⟨_, der_law_lot_text M  hr, enter hsp (fun ts cs Kk ke hg => sem_law_lot_text E ts cs Kk ke hg)⟩)
theorem ok_law_lot (M : MgOk K mg) : Ok_law_lot PP w K mg base := F_law_lot.ok sc_law_lot (toSp.len (sg1_len)) (fun cdv A outer s H vs Q E hr hsp => ⟨_, der_law_lot M (ok_Lot_init M) hr, enter hsp (fun ts cs Kk ke hg => sem_law_lot E ts cs Kk ke hg)⟩)
theorem ok_law_network (M : MgOk K mg) : Ok_law_network PP w K mg base := F_law_network.ok sc_law_network (toSp.len (sg2_len)) (fun cdv A outer s H vs Q E hr hsp => ⟨_, der_law_network M (ok_Network_init M) (ok_law_lot M) hr, enter hsp (fun ts cs Kk ke hg => sem_law_network E ts cs Kk ke hg)⟩)
theorem ok_law_mode (M : MgOk K mg) : Ok_law_mode PP w K mg base := F_law_mode.ok sc_law_mode (toSp.len (sg1_len)) (fun cdv A outer s H vs Q E hr hsp => ⟨_, der_law_mode M  hr, enter hsp (fun ts cs Kk ke hg => sem_law_mode E ts cs Kk ke hg)⟩)
theorem ok_law_demand (M : MgOk K mg) : Ok_law_demand PP w K mg base := F_law_demand.ok sc_law_demand (toSp.len (sg3_len)) (fun cdv A outer s H vs Q E hr hsp => ⟨_, der_law_demand M (ok_Demand_init M) (ok_law_mode M) hr, enter hsp (fun ts cs Kk ke hg => sem_law_demand E ts cs Kk ke hg)⟩)
theorem ok_law_lot_is (M : MgOk K mg) : Ok_law_lot_is PP w K mg base := F_law_lot_is.ok sc_law_lot_is (toSp.len (sg2_len)) (fun cdv A outer s H vs Q E hr hsp => ⟨_, der_law_lot_is M (ok_law_same M 3) hr, enter hsp (fun ts cs Kk ke hg => sem_law_lot_is E ts cs Kk ke hg)⟩)
theorem ok_law_network_is (M : MgOk K mg) : Ok_law_network_is PP w K mg base := F_law_network_is.ok sc_law_network_is (toSp.len (sg3_len)) (fun cdv A outer s H vs Q E hr hsp => ⟨_, der_law_network_is M (ok_law_same M 3) (ok_law_lot_is M) hr, enter hsp (fun ts cs Kk ke hg => sem_law_network_is E ts cs Kk ke hg)⟩)
theorem ok_law_demand_is (M : MgOk K mg) : Ok_law_demand_is PP w K mg base := F_law_demand_is.ok sc_law_demand_is (toSp.len (sg4_len)) (fun cdv A outer s H vs Q E hr hsp => ⟨_, der_law_demand_is M (ok_law_same M 3) hr, enter hsp (fun ts cs Kk ke hg => sem_law_demand_is E ts cs Kk ke hg)⟩)
theorem ok_law_true (M : MgOk K mg) : Ok_law_true PP w K mg base := F_law_true.ok sc_law_true (toSp.len (sg1_len)) (fun cdv A outer s H vs Q E hr hsp => ⟨_, der_law_true M  hr, enter hsp (fun ts cs Kk ke hg => sem_law_true E ts cs Kk ke hg)⟩)
theorem ok_law_repeated (M : MgOk K mg) : Ok_law_repeated PP w K mg base := F_law_repeated.ok sc_law_repeated (toSp.len (sg2_len)) (fun cdv A outer s H vs Q E hr hsp => ⟨_, der_law_repeated M (ok_law_draw M) hr, enter hsp (fun ts cs Kk ke hg => sem_law_repeated E ts cs Kk ke hg)⟩)
theorem ok_law_network_text (M : MgOk K mg) : Ok_law_network_text PP w K mg base := F_law_network_text.ok sc_law_network_text (toSp.len (sg5_len)) (fun cdv A outer s H vs Q E hr hsp => ⟨_, der_law_network_text M (ok_law_lot_text M) hr, enter hsp (fun ts cs Kk ke hg => sem_law_network_text E ts cs Kk ke hg)⟩)
theorem ok_law_case (M : MgOk K mg) : Ok_law_case PP w K mg base := F_law_case.ok sc_law_case (toSp.len (sg1_len)) (fun cdv A outer s H vs Q E hr hsp => ⟨_, der_law_case M (ok_law_draw M) (ok_law_pick M) (ok_law_repeated M) (ok_law_rows M) hr, enter hsp (fun ts cs Kk ke hg => sem_law_case E ts cs Kk ke hg)⟩)
theorem ok_Lot_eq (M : MgOk K mg) : Ok_Lot_eq PP w K mg base := F_Lot_eq.ok sc_Lot_eq (toSp.len (sg2_len)) (fun cdv A outer s H vs Q E hr hsp => ⟨_, der_Lot_eq M  hr, enter hsp (fun ts cs Kk ke hg => sem_Lot_eq E ts cs Kk ke hg)⟩)
theorem ok_Network_eq (M : MgOk K mg) : Ok_Network_eq PP w K mg base := F_Network_eq.ok sc_Network_eq (toSp.len (sg2_len)) (fun cdv A outer s H vs Q E hr hsp => ⟨_, der_Network_eq M (ok_Lot_eq M) hr, enter hsp (fun ts cs Kk ke hg => sem_Network_eq E ts cs Kk ke hg)⟩)
theorem ok_Demand_eq (M : MgOk K mg) : Ok_Demand_eq PP w K mg base := F_Demand_eq.ok sc_Demand_eq (toSp.len (sg2_len)) (fun cdv A outer s H vs Q E hr hsp => ⟨_, der_Demand_eq M  hr, enter hsp (fun ts cs Kk ke hg => sem_Demand_eq E ts cs Kk ke hg)⟩)
theorem ok_law_back (M : MgOk K mg) : Ok_law_back PP w K mg base := F_law_back.ok sc_law_back (toSp.len (sg1_len)) (fun cdv A outer s H vs Q E hr hsp => ⟨_, der_law_back M (ok_law_network_text M) (ok_law_network M) (ok_law_demand M) (ok_law_same M 3) (ok_write_network M) (ok_read_network M) (ok_law_network_is M) (ok_law_demand_is M) (ok_law_true M) (ok_Network_eq M) (ok_Demand_eq M) hr, enter hsp (fun ts cs Kk ke hg => sem_law_back E ts cs Kk ke hg)⟩)
theorem ok_law_refused (M : MgOk K mg) : Ok_law_refused PP w K mg base := F_law_refused.ok sc_law_refused (toSp.len (sg2_len)) (fun cdv A outer s H vs Q E hr hsp => ⟨_, der_law_refused M (ok_write_network M) hr, enter hsp (fun ts cs Kk ke hg => sem_law_refused E ts cs Kk ke hg)⟩)
theorem ok_law (M : MgOk K mg) : Ok_law PP w K mg base := F_law.ok sc_law (toSp.len (sg1_len)) (fun cdv A outer s H vs Q E hr hsp => ⟨_, der_law M (ok_law_source M) (ok_law_case M) (ok_law_back M) (ok_law_draw M) (ok_law_refused M) (ok_law_network M) (ok_law_demand M) (ok_law_same M 3) hr, enter hsp (fun ts cs Kk ke hg => sem_law E ts cs Kk ke hg)⟩)
end
end K63

set_option Elab.async false
set_option linter.all false
set_option maxRecDepth 100000
set_option maxHeartbeats 0
set_option autoImplicit false
namespace K63
open PySem PySem.Spec PyProof.Rows L2 S
def nm0 : List Str := ["_wall", "__name__", "NetworkError", "InvalidLot", "PlaceOutOfRange", "NumberOutOfRange", "NoSuchLot", "InvalidLine", "MOST_PLACES", "MOST_PRICE", "all_different", "Lot"]
def nm1 : List Str := ["Mode", "Gather", "Spread", "MOST_LOTS", "check_place", "check_size", "Network", "MOST_COUNT", "Demand", "DIGITS", "MOST_DIGITS", "number_in"]
def nm2 : List Str := ["write_network", "named_number", "mode_in", "leading_places", "lot_in", "read_network", "_law_source", "_law_mixed", "_law_draw", "_law_number", "_law_same", "_law_pick"]
def nm3 : List Str := ["_law_shuffled", "_law_group", "_law_menu", "_law_cost", "_law_row", "_law_rows", "_law_lot_text", "_law_lot", "_law_network", "_law_mode", "_law_demand", "_law_lot_is"]
def nm4 : List Str := ["_law_network_is", "_law_demand_is", "_law_true", "_law_repeated", "_law_network_text", "_law_case", "_law_back", "_law_refused"]
def nms : List Str := nm0 ++ nm1 ++ nm2 ++ nm3 ++ nm4
abbrev R : PySem.W.OpenRow := PySem.W.OpenLaw.row PySem.Challenge.rw_lotsintrees_k63_whole_texts_read_back
def clss : List Str := ["Lot", "Network", "Demand", "Gather", "Mode", "Spread", "PlaceOutOfRange", "NetworkError"]
abbrev hk : PySem.W.Hook := hookN clss [] exs fns cns
def ob (s : PySem.W.SharedT) : AlS := obsNG clss [] exs fns cns (HandSHeadRun.getT s)
theorem ob_eq (s : PySem.W.SharedT) : ob s = hk.obs s.abs := obsNG_eq (HandSHeadRun.getT_eq s)
theorem run (w : World) : HandSHeadRun.RunEq R (PySem.W.view R.prog [62]) hk ob 40000 nms w := by
  intro os
  kernel_rfl
theorem facts {w : World} {K : PySem.W.Frag} {h : Heap} {mg : Str → Option Value} {f : Addr} (X : K.In h) (G : h.Ns mainGlobals mg) (hfa : mg ("law" : Str) = some (.ref f)) (c : SaysS exs fns cns K) :
    ∃ (fd : FuncData), (∀ (s : Shared) (v : Value), BindsTo s fd ⟨[v], []⟩ [("script", v)]) ∧ ∀ base : Heap, K.In base → base.Ns mainGlobals mg → FnOk PP w K mg base (L2.CX PP w) 8 f fd ["script"] (toSp (g_law K)) := by
  haveI : Tx K := ⟨c⟩
  have e := hfa.symm.trans (M_law (K := K) ⟨⟨h, X, G⟩⟩)
  cases e
  have b := FunD.bindsA (ps := ["script"]) (F_law (K := K)) fun _ _ _ _ _ _ us hl => match us, hl with | [_], _ => rfl
  exact ⟨_, fun s v => b s [v] rfl, fun base hX hG => ok_law ⟨⟨base, hX, hG⟩⟩⟩
end K63

set_option Elab.async false
set_option linter.all false
set_option maxRecDepth 100000
set_option maxHeartbeats 0
open PySem PySem.W PySem.Calls PyProof.Rows
theorem PySem.Challenge.cw_lotsintrees_k63_whole_texts_read_back_holds : PySem.Challenge.rw_lotsintrees_k63_whole_texts_read_back.Holds := by
  w_on; o_law
  refine HandSHeadRun.head_any (r := OpenLaw.row PySem.Challenge.rw_lotsintrees_k63_whole_texts_read_back) (q := view (OpenLaw.row PySem.Challenge.rw_lotsintrees_k63_whole_texts_read_back).prog [62]) (H := K63.hk) (ob := K63.ob) (M := 40000) (loose := K63.nms) (d := HandSHeadRun.topDef (OpenLaw.row PySem.Challenge.rw_lotsintrees_k63_whole_texts_read_back).prog 62) (kwd := []) K63.ob_eq
    (by kernel_rfl) (fun s => by kernel_rfl) K63.run (by kernel_rfl) (by kernel_rfl) (by kernel_rfl) (by rfl) (by first | assumption | decide +kernel) (by decide +kernel) ⟨rfl, rfl, rfl, rfl, rfl, by decide +kernel⟩ ?hw ?hc
  case hw => w_witness2
  case hc =>
    refine S.walk_S (l := PySem.Challenge.rw_lotsintrees_k63_whole_texts_read_back) (k := 8) (x := "script") rfl (by kernel_rfl) ⟨rfl, by decide, by decide⟩ ?F
    intro w mg fa h Y G hmg0
    obtain ⟨K, KX, c⟩ := Y
    have hmg : mg ("law" : PySem.Str) = some (.ref fa) := by
      have e : (HandSHeadRun.topDef (OpenLaw.row PySem.Challenge.rw_lotsintrees_k63_whole_texts_read_back).prog 62).name = ("law" : PySem.Str) := by kernel_rfl
      rw [← e]
      exact hmg0
    obtain ⟨fd, hb, hF⟩ := K63.facts (w := w) KX G hmg c
    exact ⟨K, fd, K63.g_law K, KX, hb, fun ns cs hs => K63.law_true ns cs hs, hF⟩
