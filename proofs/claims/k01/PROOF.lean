import PyProof.Rows.All
import Wide.All
import OpenK.AllK
import Wide.FinOn
import HandS.ForMost
import HandS.Wide
import HandS.WordsExc
import HandS.CallSlots
import HandS.TryOnly
import HandS.IsInst
import HandS.StrMore
import HandS.ExcOwn
import HandS.Deep
import HandS.Codes
import PySem.Challenge.RW_holefills_k01_lexemes
set_option Elab.async false
set_option linter.all false
set_option maxRecDepth 100000
/-! Sim: what a Python def does, as a plain Lean function over a store of objects; here the store and the relation to the abstract heap. -/
namespace Hf
open PySem PySem.Spec L2

/-! ### the store -/
inductive Tr (α : Type) where
  | e | n (l : Tr α) (o : Option α) (r : Tr α)
namespace Tr
variable {α : Type}
def lf : Tr α → Tr α | .e => .e | .n l _ _ => l
def rg : Tr α → Tr α | .e => .e | .n _ _ r => r
def vl : Tr α → Option α | .e => none | .n _ o _ => o
def get : Tr α → Nat → Option α
  | .e, _ => none
  | .n l o r, k => match k with
    | 0 => o
    | k + 1 => match k % 2 with
      | 0 => l.get (k / 2)
      | _ => r.get (k / 2)
def setF : Nat → Tr α → Nat → α → Tr α
  | 0, t, _, _ => t
  | f + 1, t, k, o => match k with
    | 0 => .n t.lf (some o) t.rg
    | k + 1 => match k % 2 with
      | 0 => .n (setF f t.lf (k / 2) o) t.vl t.rg
      | _ => .n t.lf t.vl (setF f t.rg (k / 2) o)
theorem get_parts (t : Tr α) (k : Nat) : t.get k = match k with | 0 => t.vl | k + 1 => match k % 2 with | 0 => t.lf.get (k / 2) | _ => t.rg.get (k / 2) := by
  cases t with
  | e =>
    cases k with
    | zero => rfl
    | succ k => simp only [get, lf, rg]; split <;> rfl
  | n l o r => cases k <;> rfl
theorem get_setF : ∀ (f : Nat) (t : Tr α) (k : Nat) (o : α) (j : Nat), k < f → (setF f t k o).get j = if j = k then some o else t.get j
  | 0, _, _, _, _, h => by omega
  | f + 1, t, 0, o, j, _ => by
    rw [get_parts t j]
    show (Tr.n t.lf (some o) t.rg).get j = _
    cases j with
    | zero => rfl
    | succ j => rw [if_neg (by omega)]; rfl
  | f + 1, t, k + 1, o, j, h => by
    rw [get_parts t j]
    have ih := fun t j => get_setF f t (k / 2) o j (by omega)
    rcases Nat.mod_two_eq_zero_or_one k with e | e
    · have e0 : setF (f + 1) t (k + 1) o = .n (setF f t.lf (k / 2) o) t.vl t.rg := by simp only [setF, e]
      rw [e0]
      cases j with
      | zero => rw [if_neg (by omega)]; rfl
      | succ j =>
        rcases Nat.mod_two_eq_zero_or_one j with e2 | e2
        · simp only [get, e2, ih]
          by_cases q : j = k
          · subst q; simp
          · rw [if_neg (by omega), if_neg (by omega)]
        · simp only [get, e2]
          rw [if_neg (by omega)]
    · have e0 : setF (f + 1) t (k + 1) o = .n t.lf t.vl (setF f t.rg (k / 2) o) := by simp only [setF, e]
      rw [e0]
      cases j with
      | zero => rw [if_neg (by omega)]; rfl
      | succ j =>
        rcases Nat.mod_two_eq_zero_or_one j with e2 | e2
        · simp only [get, e2]
          rw [if_neg (by omega)]
        · simp only [get, e2, ih]
          by_cases q : j = k
          · subst q; simp
          · rw [if_neg (by omega), if_neg (by omega)]
def set (t : Tr α) (k : Nat) (o : α) : Tr α := setF (k + 1) t k o
theorem get_set (t : Tr α) (k : Nat) (o : α) (j : Nat) : (t.set k o).get j = if j = k then some o else t.get j := get_setF _ _ _ _ _ (Nat.lt_succ_self k)
end Tr

/-- what stands at a place of the store -/
inductive Ob where
  /-- a list; a tuple -/
  | lst (xs : List V) | tup (xs : List V)
  /-- a list that is read alone: b: it is tracked (else it stands in the written part) -/
  | frz (b : Bool) (xs : List V)
  /-- a tuple of the written part, with its number -/
  | ktup (k : Nat) (xs : List V)
  /-- a thing of the written part, by its number -/
  | sta (k : Nat)
  /-- a dict with keys that are ints and texts -/
  | dic (kvs : List (Key × V))
  /-- an instance of the class of a number -/
  | ins (c : Nat) (fs : List (Str × V))

structure Sto where
  n : Nat
  t : Tr Ob
namespace Sto
def get (S : Sto) (i : Nat) : Option Ob := S.t.get i
def push (S : Sto) (o : Ob) : Sto := ⟨S.n + 1, S.t.set S.n o⟩
def set (S : Sto) (i : Nat) (o : Ob) : Sto := ⟨S.n, S.t.set i o⟩
theorem get_push (S : Sto) (o : Ob) (i : Nat) : (S.push o).get i = if i = S.n then some o else S.get i := Tr.get_set _ _ _ _
theorem get_set (S : Sto) (j : Nat) (o : Ob) (i : Nat) : (S.set j o).get i = if i = j then some o else S.get i := Tr.get_set _ _ _ _
@[simp] theorem n_push (S : Sto) (o : Ob) : (S.push o).n = S.n + 1 := rfl
@[simp] theorem n_set (S : Sto) (i : Nat) (o : Ob) : (S.set i o).n = S.n := rfl
end Sto

/-! ### from the store to the abstract heap -/
def mv (m : Nat → Addr) : V → V
  | .ref a => .ref (m a)
  | v => v
abbrev mvs (m : Nat → Addr) (xs : List V) : List V := xs.map (mv m)
abbrev mst (m : Nat → Addr) (σ : St) : St := σ.map (Option.map (mv m))
abbrev mf (m : Nat → Addr) (fs : List (Str × V)) : List (Str × V) := fs.map fun p => (p.1, mv m p.2)
abbrev mk' (m : Nat → Addr) (fs : List (Key × V)) : List (Key × V) := fs.map fun p => (p.1, mv m p.2)

def wfV (n : Nat) : V → Prop
  | .ref a => a < n
  | _ => True
def wfs (n : Nat) (xs : List V) : Prop := ∀ x ∈ xs, wfV n x
def wfσ (n : Nat) (σ : St) : Prop := ∀ v, some v ∈ σ → wfV n v
def Ob.wf (n : Nat) : Ob → Prop
  | .lst xs | .tup xs | .frz _ xs | .ktup _ xs => wfs n xs
  | .sta _ => True
  | .dic kvs => ∀ p ∈ kvs, wfV n p.2
  | .ins _ fs => ∀ p ∈ fs, wfV n p.2
def Ob.trk : Ob → Bool
  | .ktup _ _ | .sta _ | .frz false _ => false
  | _ => true

/-- what is fixed: the classes and the things of the written part -/
structure Fix where
  cls : Nat → Addr
  sta : Nat → Addr

abbrev Ext (m m' : Nat → Addr) (n : Nat) : Prop := ∀ i, i < n → m' i = m i
theorem Ext.refl {m : Nat → Addr} {n : Nat} : Ext m m n := fun _ _ => rfl
theorem Ext.trans {m m1 m2 : Nat → Addr} {n n1 : Nat} (a : Ext m m1 n) (b : Ext m1 m2 n1) (h : n ≤ n1) : Ext m m2 n := fun i hi => (b i (Nat.lt_of_lt_of_le hi h)).trans (a i hi)
theorem Ext.mono {m m' : Nat → Addr} {n n1 : Nat} (a : Ext m m' n1) (h : n ≤ n1) : Ext m m' n := fun i hi => a i (Nat.lt_of_lt_of_le hi h)
theorem wfV.mono {n n' : Nat} {v : V} (h : wfV n v) (l : n ≤ n') : wfV n' v := by
  cases v with
  | ref a => exact Nat.lt_of_lt_of_le h l
  | _ => trivial
theorem wfs.mono {n n' : Nat} {xs : List V} (h : wfs n xs) (l : n ≤ n') : wfs n' xs := fun x hx => (h x hx).mono l
theorem wfσ.mono {n n' : Nat} {σ : St} (h : wfσ n σ) (l : n ≤ n') : wfσ n' σ := fun x hx => (h x hx).mono l
theorem Ob.wf.mono {n n' : Nat} {o : Ob} (h : o.wf n) (l : n ≤ n') : o.wf n' := by
  cases o with
  | lst xs => exact wfs.mono h l
  | tup xs => exact wfs.mono h l
  | frz b xs => exact wfs.mono h l
  | ktup k xs => exact wfs.mono h l
  | sta k => trivial
  | dic kvs => exact fun p hp => (h p hp).mono l
  | ins c fs => exact fun p hp => (h p hp).mono l
theorem mv_ext {m m' : Nat → Addr} {n : Nat} {v : V} (e : Ext m m' n) (h : wfV n v) : mv m' v = mv m v := by
  cases v with
  | ref a => exact congrArg V.ref (e a h)
  | _ => rfl
theorem mvs_ext {m m' : Nat → Addr} {n : Nat} {xs : List V} (e : Ext m m' n) (h : wfs n xs) : mvs m' xs = mvs m xs :=
  List.map_congr_left fun x hx => mv_ext e (h x hx)
theorem mst_ext {m m' : Nat → Addr} {n : Nat} {σ : St} (e : Ext m m' n) (h : wfσ n σ) : mst m' σ = mst m σ :=
  List.map_congr_left fun x hx => by
    cases x with
    | none => rfl
    | some v => exact congrArg some (mv_ext e (h v hx))
theorem mf_ext {m m' : Nat → Addr} {n : Nat} {fs : List (Str × V)} (e : Ext m m' n) (h : ∀ p ∈ fs, wfV n p.2) : mf m' fs = mf m fs :=
  List.map_congr_left fun p hp => by rw [mv_ext e (h p hp)]
theorem mk_ext {m m' : Nat → Addr} {n : Nat} {fs : List (Key × V)} (e : Ext m m' n) (h : ∀ p ∈ fs, wfV n p.2) : mk' m' fs = mk' m fs :=
  List.map_congr_left fun p hp => by rw [mv_ext e (h p hp)]

/-- the third way of SqL, SqT: it stands in the written part -/
def KSq (T : String) (K : PySem.W.Frag) (a : Addr) (xs : List V) : Prop :=
  ∃ (o : Obj) (its : Array Value) (n : Nat), K.lookup a = some o ∧ o.cls = .type T ∧ o.dict = none ∧ o.data = .seq its n ∧ its.size ≤ sizeLine ∧ Vals xs its.toList
theorem KSq.l {K : PySem.W.Frag} {H : Hp} {a : Addr} {xs : List V} (h : KSq "list" K a xs) : SqL K H a xs := .inr h
theorem KSq.t {K : PySem.W.Frag} {H : Hp} {a : Addr} {xs : List V} (h : KSq "tuple" K a xs) : SqT K H a xs :=
  let ⟨o, its, n, h1, h2, _, h4⟩ := h
  .inr ⟨o, its, n, h1, h2, h4⟩

def Holds (G : Fix) (K : PySem.W.Frag) (m : Nat → Addr) (H : Hp) (i : Nat) : Ob → Prop
  | .lst xs => H (m i) = some (.lst (mvs m xs))
  | .tup xs => H (m i) = some (.tup (mvs m xs))
  | .frz true xs => Rd H (m i) (.lst (mvs m xs))
  | .frz false xs => KSq "list" K (m i) (mvs m xs)
  | .ktup k xs => m i = G.sta k ∧ KSq "tuple" K (m i) (mvs m xs)
  | .sta k => m i = G.sta k
  | .dic kvs => H (m i) = some (.dK (mk' m kvs))
  | .ins c fs => ∃ dx, H (m i) = some (.ins (G.cls c) dx (mf m fs)) ∧ H dx = some (.own (m i))

structure Rel (G : Fix) (K : PySem.W.Frag) (m : Nat → Addr) (S : Sto) (H : Hp) : Prop where
  holds : ∀ i o, S.get i = some o → Holds G K m H i o
  inj : ∀ i j oi oj, S.get i = some oi → S.get j = some oj → oi.trk = true → oj.trk = true → m i = m j → i = j
  dom : ∀ i o, S.get i = some o → i < S.n
  wf : ∀ i o, S.get i = some o → o.wf S.n

section
variable {G : Fix} {K : PySem.W.Frag} {m m' : Nat → Addr} {S : Sto} {H : Hp} {i : Nat} {o : Ob}
theorem Holds.live (h : Holds G K m H i o) (t : o.trk = true) : H (m i) ≠ none := by
  cases o with
  | lst xs => intro e; rw [show H (m i) = _ from h] at e; cases e
  | tup xs => intro e; rw [show H (m i) = _ from h] at e; cases e
  | frz b xs =>
    cases b with
    | true =>
      intro e
      rcases (show Rd H (m i) _ from h) with q | ⟨_, q⟩ <;> (rw [q] at e; cases e)
    | false => cases t
  | ktup k xs => cases t
  | sta k => cases t
  | dic kvs => intro e; rw [show H (m i) = _ from h] at e; cases e
  | ins c fs => intro e; obtain ⟨dx, q, _⟩ := h; rw [q] at e; cases e
/-- another map that agrees below -/
theorem Holds.ext {n : Nat} (e : Ext m m' n) (hi : i < n) (w : o.wf n) (h : Holds G K m H i o) : Holds G K m' H i o := by
  cases o with
  | lst xs => show H (m' i) = some (.lst (mvs m' xs)); rw [e i hi, mvs_ext e w]; exact h
  | tup xs => show H (m' i) = some (.tup (mvs m' xs)); rw [e i hi, mvs_ext e w]; exact h
  | frz b xs =>
    cases b with
    | true => show Rd H (m' i) (.lst (mvs m' xs)); rw [e i hi, mvs_ext e w]; exact h
    | false => show KSq "list" K (m' i) (mvs m' xs); rw [e i hi, mvs_ext e w]; exact h
  | ktup k xs => show m' i = _ ∧ KSq "tuple" K (m' i) (mvs m' xs); rw [e i hi, mvs_ext e w]; exact h
  | sta k => show m' i = _; rw [e i hi]; exact h
  | dic kvs => show H (m' i) = some (.dK (mk' m' kvs)); rw [e i hi, mk_ext e w]; exact h
  | ins c fs => show ∃ dx, H (m' i) = some (.ins (G.cls c) dx (mf m' fs)) ∧ H dx = some (.own (m' i)); rw [e i hi, mf_ext e w]; exact h
/-- another heap: where what is tracked at its address, and own dicts, stand as they stood -/
theorem Holds.heap {H' : Hp} (h : Holds G K m H i o) (k : o.trk = true → ∀ u, H (m i) = some u → H' (m i) = some u) (ko : ∀ b x, H b = some (.own x) → H' b = some (.own x)) : Holds G K m H' i o := by
  cases o with
  | lst xs => exact k rfl _ h
  | tup xs => exact k rfl _ h
  | frz b xs =>
    cases b with
    | true =>
      rcases (show Rd H (m i) _ from h) with q | ⟨o, q⟩
      · exact .inl (k rfl _ q)
      · exact .inr ⟨o, k rfl _ q⟩
    | false => exact h
  | ktup k xs => exact h
  | sta k => exact h
  | dic kvs => exact k rfl _ h
  | ins c fs => obtain ⟨dx, q1, q2⟩ := h; exact ⟨dx, k rfl _ q1, ko _ _ q2⟩

theorem Rel.sqL {xs : List V} (R : Rel G K m S H) (h : S.get i = some (.lst xs)) : H (m i) = some (.lst (mvs m xs)) := R.holds _ _ h

/-- a new object -/
theorem Rel.push (R : Rel G K m S H) {p : Addr} {u : HO} (hp : H p = none) (w : o.wf S.n)
    (h : ∀ m', m' S.n = p → Ext m m' S.n → Holds G K m' (upd H p u) S.n o) :
    Ext m (fun j => if j = S.n then p else m j) S.n ∧ Rel G K (fun j => if j = S.n then p else m j) (S.push o) (upd H p u) := by
  have e : Ext m (fun j => if j = S.n then p else m j) S.n := fun j hj => if_neg (by omega)
  refine ⟨e, ⟨?_, ?_, ?_, ?_⟩⟩
  · intro j oj hj
    rw [Sto.get_push] at hj
    by_cases q : j = S.n
    · subst q
      rw [if_pos rfl] at hj
      cases hj
      exact h _ (if_pos rfl) e
    · rw [if_neg q] at hj
      have h0 := R.holds j oj hj
      refine Holds.ext e (R.dom _ _ hj) (R.wf _ _ hj) (h0.heap (fun t u hu => ?_) fun b x hb => ?_)
      · rw [upd_ne (ne_of_none hu hp)]; exact hu
      · rw [upd_ne (ne_of_none hb hp)]; exact hb
  · intro j k oj ok hj hk tj tk ejk
    rw [Sto.get_push] at hj hk
    have nw : ∀ l ol, S.get l = some ol → ol.trk = true → m l ≠ p := fun l ol hl tl z => (R.holds l ol hl).live tl (by rw [z]; exact hp)
    by_cases qj : j = S.n
    · by_cases qk : k = S.n
      · rw [qj, qk]
      · rw [if_neg qk] at hk
        simp only [if_pos qj, if_neg qk] at ejk
        exact (nw k ok hk tk ejk.symm).elim
    · rw [if_neg qj] at hj
      by_cases qk : k = S.n
      · simp only [if_neg qj, if_pos qk] at ejk
        exact (nw j oj hj tj ejk).elim
      · rw [if_neg qk] at hk
        simp only [if_neg qj, if_neg qk] at ejk
        exact R.inj j k oj ok hj hk tj tk ejk
  · intro j oj hj
    rw [Sto.get_push] at hj
    by_cases q : j = S.n
    · rw [q]; exact Nat.lt_succ_self _
    · rw [if_neg q] at hj; exact Nat.lt_succ_of_lt (R.dom _ _ hj)
  · intro j oj hj
    rw [Sto.get_push] at hj
    by_cases q : j = S.n
    · rw [if_pos q] at hj; cases hj; exact w.mono (Nat.le_succ _)
    · rw [if_neg q] at hj; exact (R.wf _ _ hj).mono (Nat.le_succ _)

/-- an object changed -/
theorem Rel.set {o' : Ob} {u u' : HO} (R : Rel G K m S H) (hi : S.get i = some o) (t : o.trk = true) (hu : H (m i) = some u') (hno : ∀ x, u' ≠ .own x) (t' : o'.trk = true) (w : o'.wf S.n)
    (h : Holds G K m (upd H (m i) u) i o') : Rel G K m (S.set i o') (upd H (m i) u) := by
  refine ⟨?_, ?_, ?_, ?_⟩
  · intro j oj hj
    rw [Sto.get_set] at hj
    by_cases q : j = i
    · subst q
      rw [if_pos rfl] at hj
      cases hj
      exact h
    · rw [if_neg q] at hj
      refine (R.holds j oj hj).heap (fun tj v hv => ?_) fun b x hb => ?_
      · rw [upd_ne (fun e => q (R.inj _ _ _ _ hj hi tj t e))]; exact hv
      · rw [upd_ne (fun e => by rw [e, hu] at hb; exact hno x (Option.some.inj hb))]; exact hb
  · intro j k oj ok hj hk tj tk ejk
    rw [Sto.get_set] at hj hk
    by_cases qj : j = i
    · by_cases qk : k = i
      · rw [qj, qk]
      · rw [if_neg qk] at hk
        subst qj
        exact R.inj _ _ _ _ hi hk t tk ejk
    · rw [if_neg qj] at hj
      by_cases qk : k = i
      · subst qk
        exact R.inj _ _ _ _ hj hi tj t ejk
      · rw [if_neg qk] at hk
        exact R.inj _ _ _ _ hj hk tj tk ejk
  · intro j oj hj
    rw [Sto.get_set] at hj
    by_cases q : j = i
    · subst q; exact R.dom _ _ hi
    · rw [if_neg q] at hj; exact R.dom _ _ hj
  · intro j oj hj
    rw [Sto.get_set] at hj
    by_cases q : j = i
    · rw [if_pos q] at hj; cases hj; exact w
    · rw [if_neg q] at hj; exact R.wf _ _ hj
end
end Hf

/-! Sim: results, the judgements that tie an expression, a test, a statement to a plain function, and the rules of control. -/
namespace Hf
open PySem PySem.Spec L2

inductive Res (α : Type) where
  | ok (a : α) (S : Sto) | ex (c : Nat) (d : Option Nat) (S : Sto) | no
inductive SRes where
  | nx (σ : St) (S : Sto) | rt (v : V) (S : Sto) | bk (σ : St) (S : Sto) | ct (σ : St) (S : Sto) | ex (c : Nat) (d : Option Nat) (σ : St) (S : Sto) | no
abbrev ME := St → Sto → Res V
abbrev MT := St → Sto → Res Bool
abbrev MA := St → Sto → Res (List V)
abbrev MS := St → Sto → SRes
def Res.bind {α β : Type} (r : Res α) (k : α → Sto → Res β) : Res β := match r with
  | .ok a S => k a S
  | .ex c d S => .ex c d S
  | .no => .no
/-- into a statement -/
def Res.sb {α : Type} (r : Res α) (σ : St) (k : α → Sto → SRes) : SRes := match r with
  | .ok a S => k a S
  | .ex c d S => .ex c d σ S
  | .no => .no

section
variable (G : Fix) (K : PySem.W.Frag)
/-- what a result promises: q of the value, x of an exception -/
def ROk {α β : Type} (f : (Nat → Addr) → α → β) (wf : Nat → α → Prop) (m : Nat → Addr) (n : Nat) (r : Res α) (q : β → Hp → Prop) (x : Value → Option Addr → Hp → Prop) : Prop := match r with
  | .ok a S => ∀ m' H', Ext m m' n → n ≤ S.n → wf S.n a → Rel G K m' S H' → q (f m' a) H'
  | .ex c d S => ∀ m' H', Ext m m' n → n ≤ S.n → Rel G K m' S H' → x (.ref (G.cls c)) (d.map m') H'
  | .no => False
end
/-- the plain kinds of results -/
class Rep (α : Type) where
  β : Type
  f : (Nat → Addr) → α → β
  wf : Nat → α → Prop
  ext : ∀ {m m' : Nat → Addr} {n : Nat} {a : α}, Ext m m' n → wf n a → f m' a = f m a
  mono : ∀ {n n' : Nat} {a : α}, wf n a → n ≤ n' → wf n' a
instance : Rep V := ⟨V, mv, wfV, mv_ext, wfV.mono⟩
instance : Rep Bool := ⟨Bool, fun _ b => b, fun _ _ => True, fun _ _ => rfl, fun _ _ => trivial⟩
instance : Rep (List V) := ⟨List V, mvs, wfs, mvs_ext, wfs.mono⟩

section
variable {G : Fix} {K : PySem.W.Frag} {m m1 : Nat → Addr} {S S1 : Sto} {H : Hp} {n n1 : Nat} {x : Value → Option Addr → Hp → Prop}
theorem ROk.weak {α β : Type} {f : (Nat → Addr) → α → β} {wf : Nat → α → Prop} {r : Res α} {q : β → Hp → Prop} (h : ROk G K f wf m n r q x) (e : Ext m m1 n) (l : n ≤ n1) : ROk G K f wf m1 n1 r q x := by
  cases r with
  | ok a S => exact fun m' H' e' l' w R => h m' H' (e.trans e' l) (Nat.le_trans l l') w R
  | ex c d S => exact fun m' H' e' l' R => h m' H' (e.trans e' l) (Nat.le_trans l l') R
  | no => exact h
theorem ROk.bind {α β α' β' : Type} {f : (Nat → Addr) → α → β} {wf : Nat → α → Prop} {f' : (Nat → Addr) → α' → β'} {wf' : Nat → α' → Prop} {r : Res α} {k : α → Sto → Res α'} {q : β' → Hp → Prop} {q1 : β → Hp → Prop}
    (h : ROk G K f' wf' m n (r.bind k) q x)
    (hk : ∀ a S1 m1 H1, Ext m m1 n → n ≤ S1.n → wf S1.n a → Rel G K m1 S1 H1 → ROk G K f' wf' m1 S1.n (k a S1) q x → q1 (f m1 a) H1) : ROk G K f wf m n r q1 x := by
  cases r with
  | ok a S => exact fun m' H' e' l' w R => hk a S m' H' e' l' w R (ROk.weak (show ROk G K f' wf' m n (k a S) q x from h) e' l')
  | ex c d S => exact h
  | no => exact h
theorem ROk.imp {α β : Type} {f : (Nat → Addr) → α → β} {wf : Nat → α → Prop} {r : Res α} {q q' : β → Hp → Prop} {x' : Value → Option Addr → Hp → Prop} (h : ROk G K f wf m n r q x) (hq : ∀ v H, q v H → q' v H) (hx : ∀ c d H, x c d H → x' c d H) : ROk G K f wf m n r q' x' := by
  cases r with
  | ok a S => exact fun m' H' e' l' w R => hq _ _ (h m' H' e' l' w R)
  | ex c d S => exact fun m' H' e' l' R => hx _ _ _ (h m' H' e' l' R)
  | no => exact h
end

/-- the ends of a statement -/
def SOk (G : Fix) (K : PySem.W.Frag) (W : WX) (m : Nat → Addr) (n : Nat) (r : SRes) (D : Ends) : Prop := match r with
  | .nx σ S => ∀ m' H', Ext m m' n → n ≤ S.n → wfσ S.n σ → Rel G K m' S H' → D.nx (mst m' σ) H'
  | .rt v S => ∀ m' H', Ext m m' n → n ≤ S.n → wfV S.n v → Rel G K m' S H' → D.rt (mv m' v) H'
  | .bk σ S => ∀ m' H', Ext m m' n → n ≤ S.n → wfσ S.n σ → Rel G K m' S H' → D.bk (mst m' σ) H'
  | .ct σ S => ∀ m' H', Ext m m' n → n ≤ S.n → wfσ S.n σ → Rel G K m' S H' → D.ct (mst m' σ) H'
  | .ex c d σ S => ∀ m' H', Ext m m' n → n ≤ S.n → wfσ S.n σ → Rel G K m' S H' → W (.ref (G.cls c)) (d.map m') (mst m' σ) H'
  | .no => False
section
variable {G : Fix} {K : PySem.W.Frag} {W : WX} {m m1 : Nat → Addr} {S S1 : Sto} {H : Hp} {n n1 : Nat} {D : Ends} {r : SRes}
theorem SOk.weak (h : SOk G K W m n r D) (e : Ext m m1 n) (l : n ≤ n1) : SOk G K W m1 n1 r D := by
  cases r with
  | no => exact h
  | ex c d σ S => exact fun m' H' e' l' w R => h m' H' (e.trans e' l) (Nat.le_trans l l') w R
  | nx σ S => exact fun m' H' e' l' w R => h m' H' (e.trans e' l) (Nat.le_trans l l') w R
  | rt σ S => exact fun m' H' e' l' w R => h m' H' (e.trans e' l) (Nat.le_trans l l') w R
  | bk σ S => exact fun m' H' e' l' w R => h m' H' (e.trans e' l) (Nat.le_trans l l') w R
  | ct σ S => exact fun m' H' e' l' w R => h m' H' (e.trans e' l) (Nat.le_trans l l') w R
theorem SOk.sb {α β : Type} {f : (Nat → Addr) → α → β} {wf : Nat → α → Prop} {r : Res α} {σ : St} {k : α → Sto → SRes} {q1 : β → Hp → Prop} (hσ : wfσ n σ)
    (h : SOk G K W m n (r.sb σ k) D)
    (hk : ∀ a S1 m1 H1, Ext m m1 n → n ≤ S1.n → wf S1.n a → Rel G K m1 S1 H1 → SOk G K W m1 S1.n (k a S1) D → q1 (f m1 a) H1) : ROk G K f wf m n r q1 (fun c d H' => W c d (mst m σ) H') := by
  cases r with
  | ok a S => exact fun m' H' e' l' w R => hk a S m' H' e' l' w R (SOk.weak (show SOk G K W m n (k a S) D from h) e' l')
  | ex c d S =>
    intro m' H' e' l' R
    have q := (show SOk G K W m n (.ex c d σ S) D from h) m' H' e' l' (hσ.mono l') R
    rw [mst_ext e' hσ] at q
    exact q
  | no => exact h
end

section
variable (G : Fix) (X : Cx) (W : WX)
abbrev VOk (m : Nat → Addr) (n : Nat) (r : Res V) (Q : VK) (x : Value → Option Addr → Hp → Prop) : Prop := ROk G X.K mv wfV m n r Q x
/-- an expression does what g says -/
def SE (e : Expr) (g : ME) : Prop := ∃ t, PE X e t ∧ ∀ m σ S H Q, Rel G X.K m S H → wfσ S.n σ → ROk G X.K mv wfV m S.n (g σ S) Q (fun c d H' => W c d (mst m σ) H') → t (mst m σ) H Q
def SB (e : Expr) (g : MT) : Prop := ∃ t, PT X e t ∧ ∀ m σ S H Q, Rel G X.K m S H → wfσ S.n σ → ROk G X.K (fun _ b => b) (fun _ _ => True) m S.n (g σ S) Q (fun c d H' => W c d (mst m σ) H') → t (mst m σ) H Q
def SW (e : Expr) (g : MT) : Prop := ∃ t, PW X e t ∧ ∀ m σ S H Q, Rel G X.K m S H → wfσ S.n σ → ROk G X.K (fun _ b => b) (fun _ _ => True) m S.n (g σ S) Q (fun c d H' => W c d (mst m σ) H') → t (mst m σ) H Q
def SA (es : List Expr) (g : MA) : Prop := ∃ t, PA X es t ∧ ∀ m σ S H Q, Rel G X.K m S H → wfσ S.n σ → ROk G X.K mvs wfs m S.n (g σ S) Q (fun c d H' => W c d (mst m σ) H') → t (mst m σ) H Q
def SS (st : Stmt) (g : MS) : Prop := ∃ t, PS X st t ∧ ∀ m σ S H D, Rel G X.K m S H → wfσ S.n σ → SOk G X.K W m S.n (g σ S) D → t D (mst m σ) H
def SSs (st : List Stmt) (g : MS) : Prop := ∃ t, PSs X st t ∧ ∀ m σ S H D, Rel G X.K m S H → wfσ S.n σ → SOk G X.K W m S.n (g σ S) D → t D (mst m σ) H
/-- a target -/
def SG (e : Expr) (g : V → St → Sto → Res St) : Prop := ∃ t, PG X e t ∧ ∀ m σ S H v (Q : St → Hp → Prop), Rel G X.K m S H → wfσ S.n σ → wfV S.n v →
  ROk G X.K mst wfσ m S.n (g v σ S) Q (fun c d H' => W c d (mst m σ) H') → t (mv m v) (mst m σ) H Q
def SGs (es : List Expr) (g : List V → St → Sto → Res St) : Prop := ∃ t, PGs X es t ∧ ∀ m σ S H vs (Q : St → Hp → Prop), Rel G X.K m S H → wfσ S.n σ → wfs S.n vs →
  ROk G X.K mst wfσ m S.n (g vs σ S) Q (fun c d H' => W c d (mst m σ) H') → t (mvs m vs) (mst m σ) H Q
end

/-! ### names, constants -/
def eVar (i : Nat) : ME := fun σ S => match σ[i]? with
  | some (some v) => .ok v S
  | _ => .no
def eC (v : V) : ME := fun _ S => .ok v S
section
variable {G : Fix} {X : Cx} {W : WX}
theorem wfσ.get {n i : Nat} {σ : St} {v : V} (h : wfσ n σ) (e : σ[i]? = some (some v)) : wfV n v := h v (List.mem_of_getElem? e)
theorem sVar (i : Nat) {x : Str} {pos : Pos} (hN : X.N[i]? = some x := by rfl) (hv : Vis X.env.scope x := by first | exact Or.inl rfl | exact Or.inr (Or.inl rfl) | exact Or.inr (Or.inr rfl)) (hd : (x == ("__debug__" : Str)) = false := by decide)
    (hcd : (x == ("__classdict__" : Str)) = false := by decide) : SE G X W (.Name x pos) (eVar i) := by
  refine ⟨_, pe_var hN hv hd hcd, fun m σ S H Q R w h => ?_⟩
  unfold eVar at h
  cases e : σ[i]? with
  | none => rw [e] at h; exact h.elim
  | some o =>
    cases o with
    | none => rw [e] at h; exact h.elim
    | some v =>
      rw [e] at h
      refine ⟨mv m v, ?_, h m H .refl (Nat.le_refl _) (w.get e) R⟩
      rw [List.getElem?_map, e]
      rfl
theorem sC {e : Expr} {v : V} (h : PE X e (tC v)) (hr : ∀ a, v ≠ .ref a) : SE G X W e (eC v) := by
  refine ⟨_, h, fun m σ S H Q R w q => ?_⟩
  have z := q m H .refl (Nat.le_refl _) (by cases v with | ref a => exact (hr a rfl).elim | _ => trivial) R
  cases v with
  | ref a => exact (hr a rfl).elim
  | _ => exact z
theorem sInt {i j pos} : SE G X W (.Constant (.int i) j pos) (eC (.int i)) := sC pe_int (fun _ => nofun)
theorem sBl {b j pos} : SE G X W (.Constant (.bool b) j pos) (eC (.bl b)) := sC pe_bl (fun _ => nofun)
theorem sNon {j pos} : SE G X W (.Constant .none j pos) (eC .non) := sC pe_non (fun _ => nofun)
theorem sStr {x j pos} : SE G X W (.Constant (.str x) j pos) (eC (.str x)) := sC pe_str (fun _ => nofun)
/-- a module's name that holds a plain value -/
theorem sGlob {x : Str} {v : V} {u : Value} {pos : Pos} (hg : Gl X x) (hm : X.mg x = some u) (r : RelV v u) (hr : ∀ a, v ≠ .ref a) (hd : (x == ("__debug__" : Str)) = false := by decide) : SE G X W (.Name x pos) (eC v) := sC (pe_glob hg hm r hd) hr
/-- a module's name that holds a thing of the written part, at place j of the store -/
def eSta (j : Nat) (k : Nat) : ME := fun _ S => match S.get j with
  | some (.sta l) => if l = k then .ok (.ref j) S else .no
  | _ => .no

/-! ### tests -/
def gTest (g : ME) : MT := fun σ S => (g σ S).bind fun v S1 => match v with | .bl b => .ok b S1 | _ => .no
theorem sTest {e : Expr} {g : ME} (h : SE G X W e g) (he : ∀ whole, isTrue e X.env whole = (do let v ← whole; standAt e.pos; holding [v] (truthy v)) := by intro _; rfl) : SB G X W e (gTest g) := by
  obtain ⟨t, p, k⟩ := h
  refine ⟨_, pt_val p he, fun m σ S H Q R w q => ?_⟩
  refine k m σ S H _ R w (ROk.bind q fun v S1 m1 H1 e1 l1 w1 R1 q1 => ?_)
  cases v with
  | bl b => exact ⟨b, rfl, q1 m1 H1 .refl (Nat.le_refl _) trivial R1⟩
  | _ => exact q1.elim
def gAnd (a b : MT) : MT := fun σ S => (a σ S).bind fun c S1 => match c with | true => b σ S1 | false => .ok false S1
def gOr (a b : MT) : MT := fun σ S => (a σ S).bind fun c S1 => match c with | true => .ok true S1 | false => b σ S1
def gNot (a : MT) : MT := fun σ S => (a σ S).bind fun c S1 => .ok (!c) S1
theorem wish_ext {W : WX} {m m1 : Nat → Addr} {n : Nat} {σ : St} (e : Ext m m1 n) (w : wfσ n σ) : (fun c d H' => W c d (mst m1 σ) H') = fun c d H' => W c d (mst m σ) H' := by rw [mst_ext e w]
theorem sbw {α : Type} {f : (Nat → Addr) → α → β} {wf : Nat → α → Prop} {m m1 : Nat → Addr} {n n1 : Nat} {r : Res α} {q : β → Hp → Prop} {σ : St} (e : Ext m m1 n) (w : wfσ n σ)
    (h : ROk G X.K f wf m1 n1 r q (fun c d H' => W c d (mst m σ) H')) : ROk G X.K f wf m1 n1 r q (fun c d H' => W c d (mst m1 σ) H') := by rw [wish_ext e w]; exact h
variable {a b c : Expr} {ga gb gc : MT} {pos : Pos} {rest : List Expr}
theorem sWand1 (h : SB G X W a ga) : SW G X W (.BoolOp .And [a] pos) ga := by
  obtain ⟨t, p, k⟩ := h
  exact ⟨_, pw_and1 p, k⟩
theorem sWor1 (h : SB G X W a ga) : SW G X W (.BoolOp .Or [a] pos) ga := by
  obtain ⟨t, p, k⟩ := h
  exact ⟨_, pw_or1 p, k⟩
theorem sWand (h : SB G X W a ga) (h2 : SW G X W (.BoolOp .And (b :: rest) pos) gb) : SW G X W (.BoolOp .And (a :: b :: rest) pos) (gAnd ga gb) := by
  obtain ⟨t, p, k⟩ := h
  obtain ⟨t2, p2, k2⟩ := h2
  refine ⟨_, pw_and p p2, fun m σ S H Q R w q => ?_⟩
  refine k m σ S H _ R w (ROk.bind q fun v S1 m1 H1 e1 l1 w1 R1 q1 => ?_)
  cases v with
  | true =>
    rw [if_pos rfl, ← mst_ext e1 w]
    exact k2 m1 σ S1 H1 Q R1 (w.mono l1) (sbw e1 w q1)
  | false =>
    rw [if_neg Bool.false_ne_true]
    exact q1 m1 H1 .refl (Nat.le_refl _) trivial R1
theorem sWor (h : SB G X W a ga) (h2 : SW G X W (.BoolOp .Or (b :: rest) pos) gb) : SW G X W (.BoolOp .Or (a :: b :: rest) pos) (gOr ga gb) := by
  obtain ⟨t, p, k⟩ := h
  obtain ⟨t2, p2, k2⟩ := h2
  refine ⟨_, pw_or p p2, fun m σ S H Q R w q => ?_⟩
  refine k m σ S H _ R w (ROk.bind q fun v S1 m1 H1 e1 l1 w1 R1 q1 => ?_)
  cases v with
  | true =>
    rw [if_pos rfl]
    exact q1 m1 H1 .refl (Nat.le_refl _) trivial R1
  | false =>
    rw [if_neg Bool.false_ne_true, ← mst_ext e1 w]
    exact k2 m1 σ S1 H1 Q R1 (w.mono l1) (sbw e1 w q1)
theorem sW (h : SW G X W a ga) : SB G X W a ga := by
  obtain ⟨t, p, k⟩ := h
  exact ⟨_, p.pt, k⟩
theorem sNotT (h : SB G X W a ga) : SB G X W (.UnaryOp .Not a pos) (gNot ga) := by
  obtain ⟨t, p, k⟩ := h
  refine ⟨_, pt_not p, fun m σ S H Q R w q => ?_⟩
  refine k m σ S H _ R w (ROk.bind q fun v S1 m1 H1 e1 l1 w1 R1 q1 => ?_)
  exact q1 m1 H1 .refl (Nat.le_refl _) trivial R1

/-! ### values of and, or, not; conditional expressions -/
def gAndV (a b : ME) : ME := fun σ S => (a σ S).bind fun c S1 => match c with | .bl true => b σ S1 | .bl false => .ok (.bl false) S1 | _ => .no
def gOrV (a b : ME) : ME := fun σ S => (a σ S).bind fun c S1 => match c with | .bl true => .ok (.bl true) S1 | .bl false => b σ S1 | _ => .no
def gNotV (a : ME) : ME := fun σ S => (a σ S).bind fun c S1 => match c with | .bl b => .ok (.bl (!b)) S1 | _ => .no
def gIfE (c : MT) (a b : ME) : ME := fun σ S => (c σ S).bind fun k S1 => match k with | true => a σ S1 | false => b σ S1
variable {ha hb : ME}
theorem sOne {op} (h : SE G X W a ha) : SE G X W (.BoolOp op [a] pos) ha := by
  obtain ⟨t, p, k⟩ := h
  exact ⟨_, pe_one p, k⟩
theorem sAndV (h : SE G X W a ha) (h2 : SE G X W (.BoolOp .And (b :: rest) pos) hb) : SE G X W (.BoolOp .And (a :: b :: rest) pos) (gAndV ha hb) := by
  obtain ⟨t, p, k⟩ := h
  obtain ⟨t2, p2, k2⟩ := h2
  refine ⟨_, pe_and p p2, fun m σ S H Q R w q => ?_⟩
  refine k m σ S H _ R w (ROk.bind q fun v S1 m1 H1 e1 l1 w1 R1 q1 => ?_)
  cases v with
  | bl c =>
    refine ⟨c, rfl, ?_⟩
    cases c with
    | true =>
      rw [if_pos rfl, ← mst_ext e1 w]
      exact k2 m1 σ S1 H1 Q R1 (w.mono l1) (sbw e1 w q1)
    | false =>
      rw [if_neg Bool.false_ne_true]
      exact q1 m1 H1 .refl (Nat.le_refl _) trivial R1
  | _ => exact q1.elim
theorem sOrV (h : SE G X W a ha) (h2 : SE G X W (.BoolOp .Or (b :: rest) pos) hb) : SE G X W (.BoolOp .Or (a :: b :: rest) pos) (gOrV ha hb) := by
  obtain ⟨t, p, k⟩ := h
  obtain ⟨t2, p2, k2⟩ := h2
  refine ⟨_, pe_or p p2, fun m σ S H Q R w q => ?_⟩
  refine k m σ S H _ R w (ROk.bind q fun v S1 m1 H1 e1 l1 w1 R1 q1 => ?_)
  cases v with
  | bl c =>
    refine ⟨c, rfl, ?_⟩
    cases c with
    | true =>
      rw [if_pos rfl]
      exact q1 m1 H1 .refl (Nat.le_refl _) trivial R1
    | false =>
      rw [if_neg Bool.false_ne_true, ← mst_ext e1 w]
      exact k2 m1 σ S1 H1 Q R1 (w.mono l1) (sbw e1 w q1)
  | _ => exact q1.elim
theorem sNotV (h : SE G X W a ha) : SE G X W (.UnaryOp .Not a pos) (gNotV ha) := by
  obtain ⟨t, p, k⟩ := h
  refine ⟨_, pe_not p, fun m σ S H Q R w q => ?_⟩
  refine k m σ S H _ R w (ROk.bind q fun v S1 m1 H1 e1 l1 w1 R1 q1 => ?_)
  cases v with
  | bl c => exact ⟨c, rfl, q1 m1 H1 .refl (Nat.le_refl _) trivial R1⟩
  | _ => exact q1.elim
theorem sIfE (hc : SB G X W c gc) (h : SE G X W a ha) (h2 : SE G X W b hb) : SE G X W (.IfExp c a b pos) (gIfE gc ha hb) := by
  obtain ⟨tc, pc, kc⟩ := hc
  obtain ⟨t, p, k⟩ := h
  obtain ⟨t2, p2, k2⟩ := h2
  refine ⟨_, pe_ifExp pc p p2, fun m σ S H Q R w q => ?_⟩
  refine kc m σ S H _ R w (ROk.bind q fun v S1 m1 H1 e1 l1 w1 R1 q1 => ?_)
  cases v with
  | true =>
    rw [if_pos rfl, ← mst_ext e1 w]
    exact k m1 σ S1 H1 Q R1 (w.mono l1) (sbw e1 w q1)
  | false =>
    rw [if_neg Bool.false_ne_true, ← mst_ext e1 w]
    exact k2 m1 σ S1 H1 Q R1 (w.mono l1) (sbw e1 w q1)

/-! ### operators -/
/-- a two-place operation on values -/
def SO (G : Fix) (X : Cx) (W : WX) (f : Value → Value → Sem Value) (g : V → V → Sto → Res V) : Prop :=
  ∃ r, OpR X f r ∧ ∀ m σ S H x y Q, Rel G X.K m S H → wfV S.n x → wfV S.n y → ROk G X.K mv wfV m S.n (g x y S) Q (fun c d H' => W c d σ H') → r (mv m x) (mv m y) H Q
def gBin (g : V → V → Sto → Res V) (a b : ME) : ME := fun σ S => (a σ S).bind fun x S1 => (b σ S1).bind fun y S2 => g x y S2
theorem bin_run {t t2 : TE} {g : V → V → Sto → Res V} {r : R2} (k : ∀ m σ S H Q, Rel G X.K m S H → wfσ S.n σ → ROk G X.K mv wfV m S.n (ha σ S) Q (fun c d H' => W c d (mst m σ) H') → t (mst m σ) H Q)
    (k2 : ∀ m σ S H Q, Rel G X.K m S H → wfσ S.n σ → ROk G X.K mv wfV m S.n (hb σ S) Q (fun c d H' => W c d (mst m σ) H') → t2 (mst m σ) H Q)
    (kr : ∀ m σ S H x y Q, Rel G X.K m S H → wfV S.n x → wfV S.n y → ROk G X.K mv wfV m S.n (g x y S) Q (fun c d H' => W c d σ H') → r (mv m x) (mv m y) H Q) :
    ∀ m σ S H Q, Rel G X.K m S H → wfσ S.n σ → ROk G X.K mv wfV m S.n (gBin g ha hb σ S) Q (fun c d H' => W c d (mst m σ) H') → tOp r t t2 (mst m σ) H Q := by
  intro m σ S H Q R w q
  refine k m σ S H _ R w (ROk.bind q fun x S1 m1 H1 e1 l1 w1 R1 q1 => ?_)
  rw [← mst_ext e1 w]
  refine k2 m1 σ S1 H1 _ R1 (w.mono l1) (ROk.bind (sbw e1 w q1) fun y S2 m2 H2 e2 l2 w2 R2 q2 => ?_)
  rw [← mv_ext e2 w1]
  exact kr m2 _ S2 H2 x y Q R2 (w1.mono l2) w2 q2
theorem sBin {op : Operator} {g : V → V → Sto → Res V} (ho : SO G X W (binaryOp op) g) (h : SE G X W a ha) (h2 : SE G X W b hb) : SE G X W (.BinOp a op b pos) (gBin g ha hb) := by
  obtain ⟨r, po, kr⟩ := ho
  obtain ⟨t, p, k⟩ := h
  obtain ⟨t2, p2, k2⟩ := h2
  exact ⟨_, pe_op po p p2, bin_run k k2 kr⟩
theorem sCmp {op : CmpOp} {g : V → V → Sto → Res V} (ho : SO G X W (compareOp op) g) (h : SE G X W a ha) (h2 : SE G X W b hb) (hm : behindInMarks op b = false := by first | exact nomark _ | rfl) : SE G X W (.Compare a [op] [b] pos) (gBin g ha hb) := by
  obtain ⟨r, po, kr⟩ := ho
  obtain ⟨t, p, k⟩ := h
  obtain ⟨t2, p2, k2⟩ := h2
  exact ⟨_, pe_cmpR po p p2 hm, bin_run k k2 kr⟩
/-- as a test -/
theorem sCmpT {op : CmpOp} {g : V → V → Sto → Res V} (ho : SO G X W (compareOp op) g) (h : SE G X W a ha) (h2 : SE G X W b hb) (hm : behindInMarks op b = false := by first | exact nomark _ | rfl) : SB G X W (.Compare a [op] [b] pos) (gTest (gBin g ha hb)) := by
  obtain ⟨r, po, kr⟩ := ho
  obtain ⟨t, p, k⟩ := h
  obtain ⟨t2, p2, k2⟩ := h2
  refine ⟨_, pt_cmpR po p p2 hm, fun m σ S H Q R w q => ?_⟩
  refine bin_run k k2 kr m σ S H _ R w (ROk.bind q fun v S1 m1 H1 e1 l1 w1 R1 q1 => ?_)
  cases v with
  | bl b => exact ⟨b, rfl, q1 m1 H1 .refl (Nat.le_refl _) trivial R1⟩
  | _ => exact q1.elim
end
end Hf

/-! Sim: argument lists, displays, targets, statements, loops, defs and their calls. -/
namespace Hf
open PySem PySem.Spec L2

section
variable {G : Fix} {X : Cx} {W : WX} {e a b c : Expr} {es : List Expr} {g ga gb : ME} {gs : MA} {pos : Pos} {st : Stmt} {rest : List Stmt} {u v : MS}

/-! ### argument lists, displays -/
def aNil : MA := fun _ S => .ok [] S
def aCons (g : ME) (r : MA) : MA := fun σ S => (g σ S).bind fun x S1 => (r σ S1).bind fun xs S2 => .ok (x :: xs) S2
theorem sANil : SA G X W [] aNil := ⟨_, pa_nil, fun m σ S H Q R w q => q m H .refl (Nat.le_refl _) (fun _ h => nomatch h) R⟩
theorem sACons (h : SE G X W e g) (h2 : SA G X W es gs) (hs : starEach (e :: es) X.env = (false, eval e X.env) :: starEach es X.env := by rfl) : SA G X W (e :: es) (aCons g gs) := by
  obtain ⟨t, p, k⟩ := h
  obtain ⟨t2, p2, k2⟩ := h2
  refine ⟨_, pa_cons p p2 hs, fun m σ S H Q R w q => ?_⟩
  refine k m σ S H _ R w (ROk.bind q fun x S1 m1 H1 e1 l1 w1 R1 q1 => ?_)
  rw [← mst_ext e1 w]
  refine k2 m1 σ S1 H1 _ R1 (w.mono l1) (ROk.bind (sbw e1 w q1) fun y S2 m2 H2 e2 l2 w2 R2 q2 => ?_)
  rw [← mv_ext e2 w1]
  exact q2 m2 H2 .refl (Nat.le_refl _) (fun z hz => (List.mem_cons.mp hz).elim (fun e => e ▸ w1.mono l2) (w2 z)) R2
def szOk (n : Nat) : Bool := decide (n ≤ sizeLine)
theorem szOk_of {n : Nat} (h : szOk n = true) : n ≤ sizeLine := of_decide_eq_true h
/-- a new object -/
def new (o : Ob) (S : Sto) : Res V := .ok (.ref S.n) (S.push o)
theorem new_ok {m : Nat → Addr} {S : Sto} {H : Hp} {o : Ob} {u : HO} {Q : VK} {x : Value → Option Addr → Hp → Prop} {p : Addr} (R : Rel G X.K m S H) (w : o.wf S.n) (hp : H p = none)
    (h : ∀ m', m' S.n = p → Ext m m' S.n → Holds G X.K m' (upd H p u) S.n o) (q : ROk G X.K mv wfV m S.n (new o S) Q x) : Q (.ref p) (upd H p u) := by
  obtain ⟨e, R'⟩ := R.push (u := u) hp w h
  have z := q _ _ e (Nat.le_succ _) (Nat.lt_succ_self _) R'
  rw [show mv (fun j => if j = S.n then p else m j) (V.ref S.n) = .ref p from congrArg V.ref (if_pos rfl)] at z
  exact z
def newL (xs : List V) (S : Sto) : Res V := if szOk xs.length then new (.lst xs) S else .no
def newT (xs : List V) (S : Sto) : Res V := if szOk xs.length then new (.tup xs) S else .no
theorem newL_ok {m : Nat → Addr} {S : Sto} {H : Hp} {xs : List V} {Q : VK} {x : Value → Option Addr → Hp → Prop} (R : Rel G X.K m S H) (w : wfs S.n xs) (q : ROk G X.K mv wfV m S.n (newL xs S) Q x) :
    (mvs m xs).length ≤ sizeLine ∧ ∀ p, H p = none → Q (.ref p) (upd H p (.lst (mvs m xs))) := by
  unfold newL at q
  by_cases z : szOk xs.length = true
  · rw [if_pos z] at q
    refine ⟨by rw [List.length_map]; exact szOk_of z, fun p hp => new_ok R (o := .lst xs) w hp (fun m' hm e => ?_) q⟩
    show upd H p (.lst (mvs m xs)) (m' S.n) = some (.lst (mvs m' xs))
    rw [hm, mvs_ext e w]
    exact upd_same
  · rw [if_neg z] at q
    exact q.elim
theorem newT_ok {m : Nat → Addr} {S : Sto} {H : Hp} {xs : List V} {Q : VK} {x : Value → Option Addr → Hp → Prop} (R : Rel G X.K m S H) (w : wfs S.n xs) (q : ROk G X.K mv wfV m S.n (newT xs S) Q x) :
    (mvs m xs).length ≤ sizeLine ∧ ∀ p, H p = none → Q (.ref p) (upd H p (.tup (mvs m xs))) := by
  unfold newT at q
  by_cases z : szOk xs.length = true
  · rw [if_pos z] at q
    refine ⟨by rw [List.length_map]; exact szOk_of z, fun p hp => new_ok R (o := .tup xs) w hp (fun m' hm e => ?_) q⟩
    show upd H p (.tup (mvs m xs)) (m' S.n) = some (.tup (mvs m' xs))
    rw [hm, mvs_ext e w]
    exact upd_same
  · rw [if_neg z] at q
    exact q.elim
def gLst (gs : MA) : ME := fun σ S => (gs σ S).bind newL
def gTup (gs : MA) : ME := fun σ S => (gs σ S).bind newT
theorem sLst (h : SA G X W es gs) : SE G X W (.List es pos) (gLst gs) := by
  obtain ⟨t, p, k⟩ := h
  refine ⟨_, pe_lst p, fun m σ S H Q R w q => ?_⟩
  exact k m σ S H _ R w (ROk.bind q fun xs S1 m1 H1 e1 l1 w1 R1 q1 => newL_ok R1 w1 q1)
theorem sTup {x1} (h : SA G X W es gs) : SE G X W (.Tuple es x1 pos) (gTup gs) := by
  obtain ⟨t, p, k⟩ := h
  refine ⟨_, pe_tup p, fun m σ S H Q R w q => ?_⟩
  exact k m σ S H _ R w (ROk.bind q fun xs S1 m1 H1 e1 l1 w1 R1 q1 => newT_ok R1 w1 q1)

/-! ### values of one kind -/
def vInt : V → Option Int | .int i => some i | _ => none
def vStr : V → Option Str | .str x => some x | _ => none
def vRef : V → Option Nat | .ref a => some a | _ => none
def vBl : V → Option Bool | .bl b => some b | _ => none
theorem vInt_of {v : V} {i : Int} (h : vInt v = some i) : v = .int i := by cases v <;> cases h; rfl
theorem vStr_of {v : V} {i : Str} (h : vStr v = some i) : v = .str i := by cases v <;> cases h; rfl
theorem vRef_of {v : V} {i : Nat} (h : vRef v = some i) : v = .ref i := by cases v <;> cases h; rfl
theorem vBl_of {v : V} {i : Bool} (h : vBl v = some i) : v = .bl i := by cases v <;> cases h; rfl
def l1 : List V → Option V | [x] => some x | _ => none
def l2 : List V → Option (V × V) | [x, y] => some (x, y) | _ => none
theorem l1_of {xs : List V} {x : V} (h : l1 xs = some x) : xs = [x] := by
  match xs, h with
  | [x], h => cases h; rfl
theorem l2_of {xs : List V} {x y : V} (h : l2 xs = some (x, y)) : xs = [x, y] := by
  match xs, h with
  | [x, y], h => cases h; rfl
/-- a value's kind, or nothing -/
def Option.go {α β : Type} (o : Option α) (k : α → Res β) : Res β := match o with | some a => k a | none => .no
theorem go_ok {α β β' : Type} {f : (Nat → Addr) → β → β'} {wf : Nat → β → Prop} {m : Nat → Addr} {n : Nat} {o : Option α} {k : α → Res β} {q : β' → Hp → Prop} {x : Value → Option Addr → Hp → Prop} (h : ROk G X.K f wf m n (Option.go o k) q x) : ∃ a, o = some a ∧ ROk G X.K f wf m n (k a) q x := by
  cases o with
  | none => exact h.elim
  | some a => exact ⟨a, rfl, h⟩
theorem if_ok {β β' : Type} {f : (Nat → Addr) → β → β'} {wf : Nat → β → Prop} {m : Nat → Addr} {n : Nat} {c : Prop} [Decidable c] {r : Res β} {q : β' → Hp → Prop} {x : Value → Option Addr → Hp → Prop} (h : ROk G X.K f wf m n (if c then r else .no) q x) : c ∧ ROk G X.K f wf m n r q x := by
  by_cases hc : c
  · rw [if_pos hc] at h; exact ⟨hc, h⟩
  · rw [if_neg hc] at h; exact h.elim

/-! ### targets -/
def tgName (i : Nat) : V → St → Sto → Res St := fun v σ S => .ok (σ.set i (some v)) S
theorem wfσ.set {n i : Nat} {σ : St} {v : V} (h : wfσ n σ) (w : wfV n v) : wfσ n (σ.set i (some v)) := fun x hx => by
  rcases List.mem_or_eq_of_mem_set hx with q | q
  · exact h x q
  · cases q; exact w
theorem mst_set (m : Nat → Addr) (i : Nat) (σ : St) (v : V) : mst m (σ.set i (some v)) = (mst m σ).set i (some (mv m v)) := List.map_set
theorem sTgName {i : Nat} {x : Str} (hN : X.N.Nodup) (hi : X.N[i]? = some x) (hx : Loc X.env.scope x) (hf : X.fn x = true ∨ X.env.scope.names.lookup x = some .local := by first | exact .inl rfl | exact .inr rfl | assumption) :
    SG G X W (.Name x pos) (tgName i) := by
  refine ⟨_, pg_name hN hi hx hf, fun m σ S H v Q R w wv q => ?_⟩
  have z := q m H .refl (Nat.le_refl _) (w.set wv) R
  rw [mst_set] at z
  exact z
def tgNil : List V → St → Sto → Res St := fun vs σ S => match vs with | [] => .ok σ S | _ => .no
def tgCons (t : V → St → Sto → Res St) (r : List V → St → Sto → Res St) : List V → St → Sto → Res St := fun vs σ S => match vs with
  | [] => .no
  | v :: vs => (t v σ S).bind fun σ' S' => r vs σ' S'
theorem sTgNil : SGs G X W [] tgNil := by
  refine ⟨_, pgs_nil, fun m σ S H vs Q R w wv q => ?_⟩
  cases vs with
  | nil => exact ⟨rfl, q m H .refl (Nat.le_refl _) w R⟩
  | cons v vs => exact q.elim
/-- targets, none of which raises -/
def noEx {α : Type} (r : Res α) : Res α := match r with | .ex _ _ _ => .no | r => r
theorem noEx_ok {α β : Type} {f : (Nat → Addr) → α → β} {wf : Nat → α → Prop} {m : Nat → Addr} {n : Nat} {r : Res α} {q : β → Hp → Prop} {x x' : Value → Option Addr → Hp → Prop} (h : ROk G X.K f wf m n (noEx r) q x) : ROk G X.K f wf m n r q x' := by
  cases r with
  | ok a S => exact h
  | ex c d S => exact h.elim
  | no => exact h
theorem sTgCons {tgt : Expr} {ts : List Expr} {t : V → St → Sto → Res St} {r : List V → St → Sto → Res St} (h : SG G X W tgt t) (h2 : SGs G X W ts r)
    (hs : (assignEach (tgt :: ts) X.env).map (·.2) = assign tgt X.env :: (assignEach ts X.env).map (·.2) := by rfl) : SGs G X W (tgt :: ts) (fun vs σ S => noEx (tgCons t r vs σ S)) := by
  obtain ⟨t, p, k⟩ := h
  obtain ⟨t2, p2, k2⟩ := h2
  refine ⟨_, pgs_cons p p2 hs, fun m σ S H vs Q R w wv q => ?_⟩
  cases vs with
  | nil => exact q.elim
  | cons v vs =>
    refine ⟨_, _, rfl, ?_⟩
    have q := noEx_ok (x' := fun _ _ _ => False) q
    refine k m σ S H v _ R w (wv v List.mem_cons_self) (ROk.imp (ROk.bind q fun σ1 S1 m1 H1 e1 l1 w1 R1 q1 => ?_) (fun _ _ z => z) fun _ _ _ z => z.elim)
    have e9 : vs.map (mv m) = mvs m1 vs := (mvs_ext e1 (fun z hz => wv z (List.mem_cons_of_mem _ hz))).symm
    rw [e9]
    exact k2 m1 σ1 S1 H1 vs Q R1 w1 (fun z hz => (wv z (List.mem_cons_of_mem _ hz)).mono l1) (ROk.imp q1 (fun _ _ z => z) fun _ _ _ z => z.elim)
/-- the items of a list or tuple at a place -/
def seqAt (S : Sto) (a : Nat) : Option (List V) := match S.get a with
  | some (.lst xs) | some (.tup xs) | some (.frz _ xs) | some (.ktup _ xs) => some xs
  | _ => none
def tupAt (S : Sto) (a : Nat) : Option (List V) := match S.get a with
  | some (.tup xs) | some (.ktup _ xs) => some xs
  | _ => none
def lstAt (S : Sto) (a : Nat) : Option (List V) := match S.get a with
  | some (.lst xs) | some (.frz _ xs) => some xs
  | _ => none
theorem Rel.tupT {K : PySem.W.Frag} {m : Nat → Addr} {S : Sto} {H : Hp} {a : Nat} {xs : List V} (R : Rel G K m S H) (h : tupAt S a = some xs) : SqT K H (m a) (mvs m xs) ∧ wfs S.n xs := by
  unfold tupAt at h
  cases e : S.get a with
  | none => rw [e] at h; cases h
  | some o =>
    rw [e] at h
    cases o with
    | tup ys => cases h; exact ⟨SqT.of (R.holds _ _ e), R.wf _ _ e⟩
    | ktup k ys => cases h; exact ⟨KSq.t (R.holds _ _ e).2, R.wf _ _ e⟩
    | _ => cases h
theorem Rel.lstL {K : PySem.W.Frag} {m : Nat → Addr} {S : Sto} {H : Hp} {a : Nat} {xs : List V} (R : Rel G K m S H) (h : lstAt S a = some xs) : SqL K H (m a) (mvs m xs) ∧ wfs S.n xs := by
  unfold lstAt at h
  cases e : S.get a with
  | none => rw [e] at h; cases h
  | some o =>
    rw [e] at h
    cases o with
    | lst ys => cases h; exact ⟨SqL.of (R.holds _ _ e), R.wf _ _ e⟩
    | frz b ys =>
      cases h
      cases b with
      | true => exact ⟨.inl (R.holds _ _ e), R.wf _ _ e⟩
      | false => exact ⟨KSq.l (R.holds _ _ e), R.wf _ _ e⟩
    | _ => cases h
theorem Rel.seq {K : PySem.W.Frag} {m : Nat → Addr} {S : Sto} {H : Hp} {a : Nat} {xs : List V} (R : Rel G K m S H) (h : seqAt S a = some xs) : (SqL K H (m a) (mvs m xs) ∧ lstAt S a = some xs ∨ SqT K H (m a) (mvs m xs) ∧ tupAt S a = some xs) ∧ wfs S.n xs := by
  unfold seqAt at h
  cases e : S.get a with
  | none => rw [e] at h; cases h
  | some o =>
    rw [e] at h
    cases o with
    | tup ys =>
      cases h
      have z : tupAt S a = some xs := by unfold tupAt; rw [e]
      exact ⟨.inr ⟨(R.tupT z).1, z⟩, R.wf _ _ e⟩
    | ktup k ys =>
      cases h
      have z : tupAt S a = some xs := by unfold tupAt; rw [e]
      exact ⟨.inr ⟨(R.tupT z).1, z⟩, R.wf _ _ e⟩
    | lst ys =>
      cases h
      have z : lstAt S a = some xs := by unfold lstAt; rw [e]
      exact ⟨.inl ⟨(R.lstL z).1, z⟩, R.wf _ _ e⟩
    | frz b ys =>
      cases h
      have z : lstAt S a = some xs := by unfold lstAt; rw [e]
      exact ⟨.inl ⟨(R.lstL z).1, z⟩, R.wf _ _ e⟩
    | _ => cases h
/-- a, b = a tuple; the same of a list -/
def tgTup (n : Nat) (r : List V → St → Sto → Res St) : V → St → Sto → Res St := fun v σ S => match v with
  | .ref a => match tupAt S a with
    | some xs => if xs.length = n then r xs σ S else .no
    | none => .no
  | _ => .no
theorem sTgTup {ts : List Expr} {r : List V → St → Sto → Res St} {k : Nat} {n : Nat} (hc : X.calm = true) (h : SGs G X W ts r) (hn : (assignEach ts X.env).length = n := by rfl) (hst : (assignEach ts X.env).findIdx? (·.1) = none := by rfl) : SG G X W (.Tuple ts k pos) (tgTup n r) := by
  obtain ⟨t, p, kk⟩ := h
  refine ⟨_, pg_tup hc p hn hst, fun m σ S H v Q R w wv q => ?_⟩
  cases v with
  | ref a =>
    unfold tgTup at q
    simp only at q
    cases e : tupAt S a with
    | none => rw [e] at q; exact q.elim
    | some xs =>
      rw [e] at q
      simp only at q
      by_cases z : xs.length = n
      · rw [if_pos z] at q
        obtain ⟨s1, w1⟩ := R.tupT e
        exact ⟨m a, mvs m xs, rfl, s1, by rw [List.length_map]; exact z, kk m σ S H xs Q R w w1 q⟩
      · rw [if_neg z] at q
        exact q.elim
  | _ => exact q.elim
/-- the same of a list; of either -/
def tgLst (n : Nat) (r : List V → St → Sto → Res St) : V → St → Sto → Res St := fun v σ S => match v with
  | .ref a => match lstAt S a with
    | some xs => if xs.length = n then r xs σ S else .no
    | none => .no
  | _ => .no
theorem sTgLst {ts : List Expr} {r : List V → St → Sto → Res St} {k : Nat} {n : Nat} (hc : X.calm = true) (h : SGs G X W ts r) (hn : (assignEach ts X.env).length = n := by rfl) (hst : (assignEach ts X.env).findIdx? (·.1) = none := by rfl) : SG G X W (.Tuple ts k pos) (tgLst n r) := by
  obtain ⟨t, p, kk⟩ := h
  refine ⟨_, pg_lst hc p hn hst, fun m σ S H v Q R w wv q => ?_⟩
  cases v with
  | ref a =>
    unfold tgLst at q
    simp only at q
    cases e : lstAt S a with
    | none => rw [e] at q; exact q.elim
    | some xs =>
      rw [e] at q
      simp only at q
      by_cases z : xs.length = n
      · rw [if_pos z] at q
        obtain ⟨s1, w1⟩ := R.lstL e
        exact ⟨m a, mvs m xs, rfl, s1, by rw [List.length_map]; exact z, kk m σ S H xs Q R w w1 q⟩
      · rw [if_neg z] at q
        exact q.elim
  | _ => exact q.elim
def tgUn (n : Nat) (r : List V → St → Sto → Res St) : V → St → Sto → Res St := fun v σ S => match v with
  | .ref a => match tupAt S a with
    | some _ => tgTup n r v σ S
    | none => tgLst n r v σ S
  | _ => .no
theorem sTgUn {ts : List Expr} {r : List V → St → Sto → Res St} {k : Nat} {n : Nat} (hc : X.calm = true) (h : SGs G X W ts r) (hn : (assignEach ts X.env).length = n := by rfl) (hst : (assignEach ts X.env).findIdx? (·.1) = none := by rfl) : SG G X W (.Tuple ts k pos) (tgUn n r) := by
  obtain ⟨t, p, kk⟩ := sTgTup (k := k) (pos := pos) hc h hn hst
  obtain ⟨t2, p2, kk2⟩ := sTgLst (k := k) (pos := pos) hc h hn hst
  refine ⟨fun v σ H Q => t v σ H Q ∨ t2 v σ H Q, ⟨fun pins s σ H v u Q I r q => ?_⟩, fun m σ S H v Q R w wv q => ?_⟩
  · rcases q with q | q
    · exact p.run pins s σ H v u Q I r q
    · exact p2.run pins s σ H v u Q I r q
  · cases v with
    | ref a =>
      unfold tgUn at q
      simp only at q
      cases e : tupAt S a with
      | some xs => rw [e] at q; exact .inl (kk m σ S H _ Q R w wv q)
      | none => rw [e] at q; exact .inr (kk2 m σ S H _ Q R w wv q)
    | _ => exact q.elim
end
end Hf

/-! Sim: statements, loops, what loops walk. -/
namespace Hf
open PySem PySem.Spec L2

section
variable {G : Fix} {X : Cx} {W : WX} {e a b c : Expr} {es : List Expr} {g ga gb : ME} {gs : MA} {pos : Pos} {st : Stmt} {rest bodyA bodyB : List Stmt} {u v : MS} {gc : MT}

/-! ### blocks -/
def mNext : MS := fun σ S => .nx σ S
def mSeq (u v : MS) : MS := fun σ S => match u σ S with
  | .nx σ' S' => v σ' S'
  | r => r
theorem ssNil : SSs G X W [] mNext := ⟨_, pss_nil, fun m σ S H D R w q => q m H .refl (Nat.le_refl _) w R⟩
theorem SOk.ends {m : Nat → Addr} {n : Nat} {r : SRes} {D D' : Ends} (h : SOk G X.K W m n r D) (hr : ∀ v H, D.rt v H → D'.rt v H)
    (hn : ∀ σ S, r = .nx σ S → SOk G X.K W m n (.nx σ S) D → SOk G X.K W m n (.nx σ S) D') (hb : ∀ σ S, r = .bk σ S → SOk G X.K W m n (.bk σ S) D → SOk G X.K W m n (.bk σ S) D')
    (hc : ∀ σ S, r = .ct σ S → SOk G X.K W m n (.ct σ S) D → SOk G X.K W m n (.ct σ S) D') : SOk G X.K W m n r D' := by
  cases r with
  | nx σ S => exact hn σ S rfl h
  | rt v S => exact fun m' H' e' l' w R => hr _ _ (h m' H' e' l' w R)
  | bk σ S => exact hb σ S rfl h
  | ct σ S => exact hc σ S rfl h
  | ex c d σ S => exact h
  | no => exact h
theorem ssCons (h : SS G X W st u) (h2 : SSs G X W rest v) : SSs G X W (st :: rest) (mSeq u v) := by
  obtain ⟨t, p, k⟩ := h
  obtain ⟨t2, p2, k2⟩ := h2
  refine ⟨_, pss_cons p p2, fun m σ S H D R w q => ?_⟩
  refine k m σ S H _ R w ?_
  unfold mSeq at q
  cases e : u σ S with
  | nx σ' S' =>
    rw [e] at q
    exact fun m' H' e' l' w' R' => k2 m' σ' S' H' D R' w' (SOk.weak q e' l')
  | _ => rw [e] at q; exact q
theorem ssOne (h : SS G X W st u) : SSs G X W [st] u := by
  obtain ⟨t, p, k⟩ := h
  exact ⟨_, pss_one p, k⟩

/-! ### small statements -/
def mPass : MS := mNext
theorem sPass : SS G X W (.Pass pos) mNext := ⟨_, ps_pass, fun m σ S H D R w q => q m H .refl (Nat.le_refl _) w R⟩
def mBreak : MS := fun σ S => .bk σ S
theorem sBreak : SS G X W (.Break pos) mBreak := ⟨_, ps_break, fun m σ S H D R w q => q m H .refl (Nat.le_refl _) w R⟩
def mCont : MS := fun σ S => .ct σ S
theorem sContinue : SS G X W (.Continue pos) mCont := ⟨_, ps_continue, fun m σ S H D R w q => q m H .refl (Nat.le_refl _) w R⟩
def mExpr (g : ME) : MS := fun σ S => (g σ S).sb σ fun _ S1 => .nx σ S1
theorem sExpr (h : SE G X W e g) (hs : swapsWith e none pos.line X.env = pure false := by rfl) : SS G X W (.Expr e pos) (mExpr g) := by
  obtain ⟨t, p, k⟩ := h
  refine ⟨_, ps_expr p hs, fun m σ S H D R w q => ?_⟩
  refine k m σ S H _ R w (SOk.sb w q fun x S1 m1 H1 e1 l1 w1 R1 q1 => ?_)
  rw [← mst_ext e1 w]
  exact q1 m1 H1 .refl (Nat.le_refl _) (w.mono l1) R1
def mRet (g : ME) : MS := fun σ S => (g σ S).sb σ fun v S1 => .rt v S1
theorem sRet (h : SE G X W e g) : SS G X W (.Return (some e) pos) (mRet g) := by
  obtain ⟨t, p, k⟩ := h
  refine ⟨_, ps_ret p, fun m σ S H D R w q => ?_⟩
  refine k m σ S H _ R w (SOk.sb w q fun x S1 m1 H1 e1 l1 w1 R1 q1 => ?_)
  exact q1 m1 H1 .refl (Nat.le_refl _) w1 R1
def mRetN : MS := fun _ S => .rt .non S
theorem sRetN : SS G X W (.Return none pos) mRetN := ⟨_, ps_retN, fun m σ S H D R w q => q m H .refl (Nat.le_refl _) trivial R⟩
def mIf (c : MT) (u v : MS) : MS := fun σ S => (c σ S).sb σ fun k S1 => match k with | true => u σ S1 | false => v σ S1
theorem sIf (hc : SB G X W c gc) (h : SSs G X W bodyA u) (h2 : SSs G X W bodyB v) : SS G X W (.If c bodyA bodyB pos) (mIf gc u v) := by
  obtain ⟨tc, pc, kc⟩ := hc
  obtain ⟨t, p, k⟩ := h
  obtain ⟨t2, p2, k2⟩ := h2
  refine ⟨_, ps_if pc p p2, fun m σ S H D R w q => ?_⟩
  refine kc m σ S H _ R w (SOk.sb w q fun x S1 m1 H1 e1 l1 w1 R1 q1 => ?_)
  cases x with
  | true =>
    rw [if_pos rfl, ← mst_ext e1 w]
    exact k m1 σ S1 H1 D R1 (w.mono l1) q1
  | false =>
    rw [if_neg Bool.false_ne_true, ← mst_ext e1 w]
    exact k2 m1 σ S1 H1 D R1 (w.mono l1) q1
def mSet (i : Nat) (g : ME) : MS := fun σ S => (g σ S).sb σ fun x S1 => .nx (σ.set i (some x)) S1
theorem sSet {i : Nat} {x : Str} {pos' : Pos} (hN : X.N.Nodup) (hi : X.N[i]? = some x) (hx : Loc X.env.scope x) (h : SE G X W e g) (hs : swapsWith e (some (.Name x pos')) pos.line X.env = pure false := by rfl) (hf : X.fn x = true ∨ X.env.scope.names.lookup x = some .local := by first | exact .inl rfl | exact .inr rfl | assumption) :
    SS G X W (.Assign [.Name x pos'] e pos) (mSet i g) := by
  obtain ⟨t, p, k⟩ := h
  refine ⟨_, ps_set hN hi hx p hs hf, fun m σ S H D R w q => ?_⟩
  refine k m σ S H _ R w (SOk.sb w q fun x S1 m1 H1 e1 l1 w1 R1 q1 => ?_)
  have z := q1 m1 H1 .refl (Nat.le_refl _) ((w.mono l1).set w1) R1
  rw [mst_set, mst_ext e1 w] at z
  exact z
/-- any target -/
def mAsg (g : ME) (t : V → St → Sto → Res St) : MS := fun σ S => (g σ S).sb σ fun x S1 => (t x σ S1).sb σ fun σ' S2 => .nx σ' S2
theorem sAsg {tg : Expr} {t : V → St → Sto → Res St} (h : SE G X W e g) (h2 : SG G X W tg t) (hs : swapsWithSole [tg] e pos.line X.env = pure false := by rfl) (hw : swappedStores [tg] e X.env = pure none := by rfl)
    (h1 : (assignEach [tg] X.env).map (·.2) = [assign tg X.env] := by rfl) : SS G X W (.Assign [tg] e pos) (mAsg g t) := by
  obtain ⟨t, p, k⟩ := h
  obtain ⟨t2, p2, k2⟩ := h2
  refine ⟨_, ps_asg p p2 hs hw h1, fun m σ S H D R w q => ?_⟩
  refine k m σ S H _ R w (SOk.sb w q fun x S1 m1 H1 e1 l1 w1 R1 q1 => ?_)
  rw [← mst_ext e1 w]
  refine k2 m1 σ S1 H1 x _ R1 (w.mono l1) w1 (SOk.sb (w.mono l1) q1 fun σ2 S2 m2 H2 e2 l2 w2 R2 q2 => ?_)
  exact q2 m2 H2 .refl (Nat.le_refl _) w2 R2
/-- a, b = x, y with plain local names -/
def mPar (i j : Nat) (gs : MA) : MS := fun σ S => (gs σ S).sb σ fun vs S1 => match vs with
  | [x, y] => .nx ((σ.set i (some x)).set j (some y)) S1
  | _ => .no
theorem sPar {i j : Nat} {x y : Str} {px py pt : Pos} {kt k2 pt2} (hc : X.calm = true) (hN : X.N.Nodup) (hi : X.N[i]? = some x) (hj : X.N[j]? = some y) (hij : i ≠ j)
    (hx : X.env.scope.names.lookup x = some .local) (hy : X.env.scope.names.lookup y = some .local) (h : SA G X W [a, b] gs)
    (hw : swappedStores [.Tuple [.Name x px, .Name y py] kt pt] (.Tuple [a, b] k2 pt2) X.env = pure (some [x, y]))
    (hs : swapsWithSole [.Tuple [.Name x px, .Name y py] kt pt] (.Tuple [a, b] k2 pt2) pos.line X.env = pure false := by rfl) :
    SS G X W (.Assign [.Tuple [.Name x px, .Name y py] kt pt] (.Tuple [a, b] k2 pt2) pos) (mPar i j gs) := by
  obtain ⟨t, p, k⟩ := h
  refine ⟨_, ps_par hc hN hi hj hij hx hy p hw hs, fun m σ S H D R w q => ?_⟩
  refine k m σ S H _ R w (SOk.sb w q fun xs S1 m1 H1 e1 l1 w1 R1 q1 => ?_)
  match xs, q1, w1 with
  | [x, y], q1, w1 =>
    refine ⟨mv m1 x, mv m1 y, rfl, ?_⟩
    have z := q1 m1 H1 .refl (Nat.le_refl _) (((w.mono l1).set (w1 x List.mem_cons_self)).set (w1 y (List.mem_cons_of_mem _ List.mem_cons_self))) R1
    rw [mst_set, mst_set, mst_ext e1 w] at z
    exact z
  | [], q1, _ => exact q1.elim
  | [_], q1, _ => exact q1.elim
  | _ :: _ :: _ :: _, q1, _ => exact q1.elim
/-- name op= e -/
def SIp (G : Fix) (X : Cx) (W : WX) (op : Operator) (g : V → V → Sto → Res V) : Prop :=
  ∃ r, PIp X op r ∧ ∀ m σ S H x y Q, Rel G X.K m S H → wfV S.n x → wfV S.n y → ROk G X.K mv wfV m S.n (g x y S) Q (fun c d H' => W c d σ H') → r (mv m x) (mv m y) H Q
def mAug (i : Nat) (o : V → V → Sto → Res V) (g : ME) : MS := fun σ S => (eVar i σ S).sb σ fun x _ => (g σ S).sb σ fun y S1 => (o x y S1).sb σ fun z S2 => .nx (σ.set i (some z)) S2
theorem sAug {i : Nat} {x : Str} {op : Operator} {o : V → V → Sto → Res V} {pos' : Pos} (hN : X.N.Nodup) (hi : X.N[i]? = some x) (hx : Loc X.env.scope x) (h : SE G X W e g) (ho : SIp G X W op o) (hf : X.fn x = true ∨ X.env.scope.names.lookup x = some .local := by first | exact .inl rfl | exact .inr rfl | assumption) :
    SS G X W (.AugAssign (.Name x pos') op e pos) (mAug i o g) := by
  obtain ⟨t, p, k⟩ := h
  obtain ⟨r, po, ko⟩ := ho
  refine ⟨_, ps_aug hN hi hx p po hf, fun m σ S H D R w q => ?_⟩
  unfold mAug eVar at q
  cases ev : σ[i]? with
  | none => rw [ev] at q; exact q.elim
  | some o1 =>
    cases o1 with
    | none => rw [ev] at q; exact q.elim
    | some v =>
      rw [ev] at q
      refine ⟨mv m v, by rw [List.getElem?_map, ev]; rfl, ?_⟩
      refine k m σ S H _ R w (SOk.sb w q fun y S1 m1 H1 e1 l1 w1 R1 q1 => ?_)
      rw [← mv_ext e1 (w.get ev), ← mst_ext e1 w]
      refine ko m1 (mst m1 σ) S1 H1 v y _ R1 ((w.get ev).mono l1) w1 (SOk.sb (w.mono l1) q1 fun z S2 m2 H2 e2 l2 w2 R2 q2 => ?_)
      have zz := q2 m2 H2 .refl (Nat.le_refl _) (((w.mono l1).mono l2).set w2) R2
      rw [mst_set, mst_ext e2 (w.mono l1)] at zz
      exact zz

/-! ### while -/
def whileL (c : MT) (u : MS) : Nat → MS
  | 0, _, _ => .no
  | n + 1, σ, S => (c σ S).sb σ fun k S1 => match k with
    | false => .nx σ S1
    | true => match u σ S1 with
      | .nx σ' S' => whileL c u n σ' S'
      | .ct σ' S' => whileL c u n σ' S'
      | .bk σ' S' => .nx σ' S'
      | r => r
theorem sWhile (n : Nat) (hp : PassesOwn (model X.prog X.w) X.A X.env X.xe) (hc : SB G X W c gc) (h : SSs G X W bodyA u) : SS G X W (.While c bodyA [] pos) (whileL gc u n) := by
  obtain ⟨tc, pc, kc⟩ := hc
  obtain ⟨t, p, k⟩ := h
  refine ⟨_, ps_while hp pc p, fun m σ S H D R w q => ?_⟩
  refine ⟨fun j σ' H' => ∃ m1 σ1 S1, σ' = mst m1 σ1 ∧ Rel G X.K m1 S1 H' ∧ wfσ S1.n σ1 ∧ SOk G X.K W m1 S1.n (whileL gc u j σ1 S1) D, ⟨n, m, σ, S, rfl, R, w, q⟩, ?_⟩
  rintro j σ' H' ⟨m1, σ1, S1, rfl, R1, w1, q1⟩
  cases j with
  | zero => exact q1.elim
  | succ j =>
    refine kc m1 σ1 S1 H' _ R1 w1 (SOk.sb w1 q1 fun x S2 m2 H2 e2 l2 w2 R2 q2 => ?_)
    cases x with
    | false =>
      rw [if_neg Bool.false_ne_true, ← mst_ext e2 w1]
      exact q2 m2 H2 .refl (Nat.le_refl _) (w1.mono l2) R2
    | true =>
      rw [if_pos rfl, ← mst_ext e2 w1]
      refine ⟨fun σ' H' => ∃ m1 σ1 S1, σ' = mst m1 σ1 ∧ Rel G X.K m1 S1 H' ∧ wfσ S1.n σ1 ∧ SOk G X.K W m1 S1.n (whileL gc u j σ1 S1) D, fun σ' H' z => ⟨j, Nat.lt_succ_self _, z⟩, ?_⟩
      refine k m2 σ1 S2 H2 _ R2 (w1.mono l2) ?_
      simp only at q2
      cases eu : u σ1 S2 with
      | nx σ' S' => rw [eu] at q2; exact fun m' H' e' l' w' R' => ⟨m', σ', S', rfl, R', w', SOk.weak q2 e' l'⟩
      | ct σ' S' => rw [eu] at q2; exact fun m' H' e' l' w' R' => ⟨m', σ', S', rfl, R', w', SOk.weak q2 e' l'⟩
      | bk σ' S' => rw [eu] at q2; exact q2
      | rt v S' => rw [eu] at q2; exact q2
      | ex c d σ' S' => rw [eu] at q2; exact q2
      | no => rw [eu] at q2; exact q2

/-! ### what is walked -/
inductive Wk where
  | seq (a : Nat) | tup (a : Nat) | rng (lo : Int) (n : Nat) | str (x : Str) | enm (a : Nat) | zip (a b : Nat) | rev (a : Nat) | keys (a : Nat) | vals (a : Nat) | itms (a : Nat)
/-- turn i: none: no rule; some none: the end; else the item -/
def nextOf (o : Option (List V)) (i : Nat) (k : V → V × Sto) : Option (Option (V × Sto)) := match o with
  | some xs => match xs[i]? with
    | some x => some (some (k x))
    | none => some none
  | none => none
def wkNext (w : Wk) (i : Nat) (S : Sto) : Option (Option (V × Sto)) := match w with
  | .seq a => nextOf (lstAt S a) i fun x => (x, S)
  | .tup a => nextOf (tupAt S a) i fun x => (x, S)
  | .rng lo n => if i < n then some (some (.int (lo + i), S)) else some none
  | .enm a => nextOf (lstAt S a) i fun x => (.ref S.n, S.push (.tup [.int i, x]))
  | _ => none
theorem nextOf_stop {o : Option (List V)} {i : Nat} {k : V → V × Sto} (h : nextOf o i k = some none) : ∃ xs, o = some xs ∧ xs.length ≤ i := by
  unfold nextOf at h
  cases o with
  | none => cases h
  | some xs =>
    simp only at h
    cases e : xs[i]? with
    | none => exact ⟨xs, rfl, List.getElem?_eq_none_iff.mp e⟩
    | some x => rw [e] at h; cases h
theorem nextOf_go {o : Option (List V)} {i : Nat} {k : V → V × Sto} {p : V × Sto} (h : nextOf o i k = some (some p)) : ∃ xs x, o = some xs ∧ xs[i]? = some x ∧ p = k x := by
  unfold nextOf at h
  cases o with
  | none => cases h
  | some xs =>
    simp only at h
    cases e : xs[i]? with
    | none => rw [e] at h; cases h
    | some x => rw [e] at h; cases h; exact ⟨xs, x, rfl, e, rfl⟩
/-- an iterator J does what wkNext says, wherever the store grew -/
def WkOk (G : Fix) (K : PySem.W.Frag) (J : It) (w : Wk) (m : Nat → Addr) (n : Nat) : Prop :=
  ∀ i m1 S1 H1, Ext m m1 n → n ≤ S1.n → Rel G K m1 S1 H1 →
    (wkNext w i S1 = some none → J.stop i H1) ∧
    ∀ x S2, wkNext w i S1 = some (some (x, S2)) → J.go i H1 ∧ ∀ v H2, J.yld i H1 v H2 → ∃ m2, Ext m1 m2 S1.n ∧ S1.n ≤ S2.n ∧ wfV S2.n x ∧ Rel G K m2 S2 H2 ∧ v = mv m2 x
def WOk (G : Fix) (K : PySem.W.Frag) (m : Nat → Addr) (n : Nat) (r : Res Wk) (R' : It → Hp → Prop) (x : Value → Option Addr → Hp → Prop) : Prop := match r with
  | .ok w S => ∀ m' H' J, Ext m m' n → n ≤ S.n → Rel G K m' S H' → WkOk G K J w m' S.n → R' J H'
  | .ex c d S => ∀ m' H', Ext m m' n → n ≤ S.n → Rel G K m' S H' → x (.ref (G.cls c)) (d.map m') H'
  | .no => False
def SI (G : Fix) (X : Cx) (W : WX) (tg iter : Expr) (g : St → Sto → Res Wk) : Prop := ∃ wi, PI X tg iter wi ∧ ∀ m σ S H (R' : It → Hp → Prop), Rel G X.K m S H → wfσ S.n σ →
  WOk G X.K m S.n (g σ S) R' (fun c d H' => W c d (mst m σ) H') → wi (mst m σ) H R'
variable {m m1 : Nat → Addr} {n n1 : Nat} {K : PySem.W.Frag}
theorem WOk.weak {r : Res Wk} {R' : It → Hp → Prop} {x : Value → Option Addr → Hp → Prop} (h : WOk G K m n r R' x) (e : Ext m m1 n) (l : n ≤ n1) : WOk G K m1 n1 r R' x := by
  cases r with
  | ok a S => exact fun m' H' J e' l' R w => h m' H' J (e.trans e' l) (Nat.le_trans l l') R w
  | ex c d S => exact fun m' H' e' l' R => h m' H' (e.trans e' l) (Nat.le_trans l l') R
  | no => exact h
theorem WOk.bind {α β : Type} {f : (Nat → Addr) → α → β} {wf : Nat → α → Prop} {r : Res α} {k : α → Sto → Res Wk} {R' : It → Hp → Prop} {x : Value → Option Addr → Hp → Prop} {q1 : β → Hp → Prop} (h : WOk G K m n (r.bind k) R' x)
    (hk : ∀ a S1 m1 H1, Ext m m1 n → n ≤ S1.n → wf S1.n a → Rel G K m1 S1 H1 → WOk G K m1 S1.n (k a S1) R' x → q1 (f m1 a) H1) : ROk G K f wf m n r q1 x := by
  cases r with
  | ok a S => exact fun m' H' e' l' w R => hk a S m' H' e' l' w R (WOk.weak (show WOk G K m n (k a S) R' x from h) e' l')
  | ex c d S => exact h
  | no => exact h
theorem SOk.wb {r : Res Wk} {σ : St} {k : Wk → Sto → SRes} {D : Ends} {R' : It → Hp → Prop} (hσ : wfσ n σ) (h : SOk G K W m n (r.sb σ k) D)
    (hk : ∀ w S1 m1 H1 J, Ext m m1 n → n ≤ S1.n → Rel G K m1 S1 H1 → WkOk G K J w m1 S1.n → SOk G K W m1 S1.n (k w S1) D → R' J H1) : WOk G K m n r R' (fun c d H' => W c d (mst m σ) H') := by
  cases r with
  | ok a S => exact fun m' H' J e' l' R wk => hk a S m' H' J e' l' R wk (SOk.weak (show SOk G K W m n (k a S) D from h) e' l')
  | ex c d S =>
    intro m' H' e' l' R
    have q := (show SOk G K W m n (.ex c d σ S) D from h) m' H' e' l' (hσ.mono l') R
    rw [mst_ext e' hσ] at q
    exact q
  | no => exact h

/-! ### for -/
def forL (w : Wk) (t : V → St → Sto → Res St) (u : MS) : Nat → Nat → MS
  | 0, _, _, _ => .no
  | n + 1, i, σ, S => match wkNext w i S with
    | none => .no
    | some none => .nx σ S
    | some (some (x, S1)) => (t x σ S1).sb σ fun σ2 S2 => match u σ2 S2 with
      | .nx σ' S' => forL w t u n (i + 1) σ' S'
      | .ct σ' S' => forL w t u n (i + 1) σ' S'
      | .bk σ' S' => .nx σ' S'
      | r => r
def mFor (n : Nat) (g : St → Sto → Res Wk) (t : V → St → Sto → Res St) (u : MS) : MS := fun σ S => (g σ S).sb σ fun w S1 => forL w t u n 0 σ S1
theorem sFor (n : Nat) {tg iter : Expr} {g : St → Sto → Res Wk} {t : V → St → Sto → Res St} (hp : PassesOwn (model X.prog X.w) X.A X.env X.xe) (hc : X.calm = true) (hi : SI G X W tg iter g) (ht : SG G X W tg t) (h : SSs G X W bodyA u)
    (hs : ∀ x, foldedSetIterable iter X.env x = pure x := by intro _; rfl) : SS G X W (.For tg iter bodyA [] pos) (mFor n g t u) := by
  obtain ⟨wi, pi, ki⟩ := hi
  obtain ⟨tt, pt, kt⟩ := ht
  obtain ⟨tb, pb, kb⟩ := h
  refine ⟨_, ps_for hp hc pi pt pb hs, fun m σ S H D R w q => ?_⟩
  refine ki m σ S H _ R w (SOk.wb w q fun wk S0 m0 H0 J e0 l0 R0 hJ q0 => ?_)
  refine ⟨fun i j σ' H' => ∃ m1 σ1 S1, σ' = mst m1 σ1 ∧ Ext m0 m1 S0.n ∧ S0.n ≤ S1.n ∧ Rel G X.K m1 S1 H' ∧ wfσ S1.n σ1 ∧ SOk G X.K W m1 S1.n (forL wk t u j i σ1 S1) D, ⟨n, m0, σ, S0, (mst_ext e0 w).symm, .refl, Nat.le_refl _, R0, w.mono l0, q0⟩, ?_⟩
  rintro i j σ' H' ⟨m1, σ1, S1, rfl, e1, l1, R1, w1, q1⟩
  cases j with
  | zero => exact q1.elim
  | succ j =>
    obtain ⟨hstop, hgo⟩ := hJ i m1 S1 H' e1 l1 R1
    unfold forL at q1
    cases en : wkNext wk i S1 with
    | none => rw [en] at q1; exact q1.elim
    | some o =>
      rw [en] at q1
      cases o with
      | none => exact .inl ⟨hstop en, q1 m1 H' .refl (Nat.le_refl _) w1 R1⟩
      | some p =>
        obtain ⟨x, S2⟩ := p
        obtain ⟨g1, g2⟩ := hgo x S2 en
        refine .inr ⟨g1, fun σ' H' => ∃ m2 σ2 S2, σ' = mst m2 σ2 ∧ Ext m0 m2 S0.n ∧ S0.n ≤ S2.n ∧ Rel G X.K m2 S2 H' ∧ wfσ S2.n σ2 ∧ SOk G X.K W m2 S2.n (forL wk t u j (i + 1) σ2 S2) D, fun σ' H' z => ⟨j, Nat.lt_succ_self _, z⟩, fun v H2 hy => ?_⟩
        obtain ⟨m2, e2, l2, w2, R2, rfl⟩ := g2 v H2 hy
        rw [← mst_ext e2 w1]
        refine kt m2 σ1 S2 H2 x _ R2 (w1.mono l2) w2 (SOk.sb (w1.mono l2) (SOk.weak q1 e2 l2) fun σ3 S3 m3 H3 e3 l3 w3 R3 q3 => ?_)
        refine kb m3 σ3 S3 H3 _ R3 w3 ?_
        have e13 : Ext m0 m3 S0.n := e1.trans (e2.trans e3 l2) l1
        have l13 : S0.n ≤ S3.n := Nat.le_trans l1 (Nat.le_trans l2 l3)
        cases eu : u σ3 S3 with
        | nx σ' S' => rw [eu] at q3; exact fun m' H' e' l' w' R' => ⟨m', σ', S', rfl, e13.trans e' l13, Nat.le_trans l13 l', R', w', SOk.weak q3 e' l'⟩
        | ct σ' S' => rw [eu] at q3; exact fun m' H' e' l' w' R' => ⟨m', σ', S', rfl, e13.trans e' l13, Nat.le_trans l13 l', R', w', SOk.weak q3 e' l'⟩
        | bk σ' S' => rw [eu] at q3; exact q3
        | rt v S' => rw [eu] at q3; exact q3
        | ex c d σ' S' => rw [eu] at q3; exact q3
        | no => rw [eu] at q3; exact q3

/-! ### the iterators -/
theorem get_mv {m : Nat → Addr} {xs : List V} {i : Nat} {v : V} (h : (mvs m xs)[i]? = some v) : ∃ x, xs[i]? = some x ∧ v = mv m x := by
  rw [List.getElem?_map] at h
  cases e : xs[i]? with
  | none => rw [e] at h; cases h
  | some x => rw [e] at h; cases h; exact ⟨x, rfl, rfl⟩
theorem mv_get {m : Nat → Addr} {xs : List V} {i : Nat} {x : V} (h : xs[i]? = some x) : (mvs m xs)[i]? = some (mv m x) := by
  rw [List.getElem?_map, h]
  rfl
theorem wk_list {m : Nat → Addr} {n a : Nat} (ha : a < n) : WkOk G K (Itl K (m a)) (.seq a) m n := by
  intro i m1 S1 H1 e1 l1 R1
  have ea : m1 a = m a := e1 a ha
  refine ⟨fun z => ?_, fun y S2 z => ?_⟩
  · obtain ⟨xs, ex, hl⟩ := nextOf_stop z
    obtain ⟨q, w⟩ := R1.lstL ex
    rw [ea] at q
    exact ⟨_, q, by rw [List.length_map]; exact hl⟩
  · obtain ⟨xs, x, ex, ei, e2⟩ := nextOf_go z
    cases e2
    obtain ⟨q, w⟩ := R1.lstL ex
    rw [ea] at q
    refine ⟨⟨_, _, q, mv_get ei⟩, fun v H2 hy => ?_⟩
    obtain ⟨rfl, hv⟩ := hy
    have z := hv _ q
    rw [mv_get ei] at z
    cases z
    exact ⟨m1, .refl, Nat.le_refl _, w y (List.mem_of_getElem? ei), R1, rfl⟩
theorem wk_tup {m : Nat → Addr} {n a : Nat} (ha : a < n) : WkOk G K (Itt K (m a)) (.tup a) m n := by
  intro i m1 S1 H1 e1 l1 R1
  have ea : m1 a = m a := e1 a ha
  refine ⟨fun z => ?_, fun y S2 z => ?_⟩
  · obtain ⟨xs, ex, hl⟩ := nextOf_stop z
    obtain ⟨q, w⟩ := R1.tupT ex
    rw [ea] at q
    exact ⟨_, q, by rw [List.length_map]; exact hl⟩
  · obtain ⟨xs, x, ex, ei, e2⟩ := nextOf_go z
    cases e2
    obtain ⟨q, w⟩ := R1.tupT ex
    rw [ea] at q
    refine ⟨⟨_, _, q, mv_get ei⟩, fun v H2 hy => ?_⟩
    obtain ⟨rfl, hv⟩ := hy
    have z := hv _ q
    rw [mv_get ei] at z
    cases z
    exact ⟨m1, .refl, Nat.le_refl _, w y (List.mem_of_getElem? ei), R1, rfl⟩
theorem wk_rng {m : Nat → Addr} {n k : Nat} {lo : Int} : WkOk G K (Itr lo k) (.rng lo k) m n := by
  intro i m1 S1 H1 e1 l1 R1
  have e0 : wkNext (.rng lo k) i S1 = if i < k then some (some (V.int (lo + i), S1)) else some none := rfl
  rw [e0]
  by_cases h : i < k
  · rw [if_pos h]
    refine ⟨fun z => (nomatch z), fun y S2 z => ?_⟩
    cases z
    refine ⟨h, fun v H2 hy => ?_⟩
    obtain ⟨rfl, rfl⟩ := hy
    exact ⟨m1, .refl, Nat.le_refl _, trivial, R1, rfl⟩
  · rw [if_neg h]
    exact ⟨fun _ => Nat.le_of_not_lt h, fun _ _ z => (nomatch z)⟩
theorem wgo {α : Type} {o : Option α} {k : α → Res Wk} {R' : It → Hp → Prop} {x : Value → Option Addr → Hp → Prop} (h : WOk G K m n (Option.go o k) R' x) : ∃ a, o = some a ∧ WOk G K m n (k a) R' x := by
  cases o with
  | none => exact h.elim
  | some a => exact ⟨a, rfl, h⟩
theorem wif {c : Prop} [Decidable c] {r : Res Wk} {R' : It → Hp → Prop} {x : Value → Option Addr → Hp → Prop} (h : WOk G K m n (if c then r else .no) R' x) : c ∧ WOk G K m n r R' x := by
  by_cases hc : c
  · rw [if_pos hc] at h; exact ⟨hc, h⟩
  · rw [if_neg hc] at h; exact h.elim
def wSeq (g : ME) : St → Sto → Res Wk := fun σ S => (g σ S).bind fun x S1 => Option.go (vRef x) fun a => Option.go (lstAt S1 a) fun _ => .ok (.seq a) S1
theorem sWSeq {tg : Expr} (h : SE G X W e g) : SI G X W tg e (wSeq g) := by
  obtain ⟨t, p, k⟩ := h
  refine ⟨_, pi_list p, fun m σ S H R' R w q => ?_⟩
  refine k m σ S H _ R w (WOk.bind q fun x S1 m1 H1 e1 l1 w1 R1 q1 => ?_)
  obtain ⟨a, ea, q2⟩ := wgo q1
  obtain ⟨xs, ex, q3⟩ := wgo q2
  cases vRef_of ea
  exact ⟨m1 a, rfl, ⟨_, (R1.lstL ex).1⟩, q3 m1 H1 _ .refl (Nat.le_refl _) R1 (wk_list w1)⟩
def wTup (g : ME) : St → Sto → Res Wk := fun σ S => (g σ S).bind fun x S1 => Option.go (vRef x) fun a => Option.go (tupAt S1 a) fun _ => .ok (.tup a) S1
theorem sWTup {tg : Expr} (h : SE G X W e g) : SI G X W tg e (wTup g) := by
  obtain ⟨t, p, k⟩ := h
  refine ⟨_, pi_tup p, fun m σ S H R' R w q => ?_⟩
  refine k m σ S H _ R w (WOk.bind q fun x S1 m1 H1 e1 l1 w1 R1 q1 => ?_)
  obtain ⟨a, ea, q2⟩ := wgo q1
  obtain ⟨xs, ex, q3⟩ := wgo q2
  cases vRef_of ea
  exact ⟨m1 a, rfl, ⟨_, (R1.tupT ex).1⟩, q3 m1 H1 _ .refl (Nat.le_refl _) R1 (wk_tup w1)⟩
def rngOk (i : Int) : Bool := decide (-(2 ^ 62) ≤ i) && decide (i < 2 ^ 62)
theorem rngOk_of {i : Int} (h : rngOk i = true) : -(2 ^ 62) ≤ i ∧ i < 2 ^ 62 := by
  have z := Bool.and_eq_true_iff.mp h
  exact ⟨of_decide_eq_true z.1, of_decide_eq_true z.2⟩
def wRng1 (gs : MA) : St → Sto → Res Wk := fun σ S => (gs σ S).bind fun xs S1 => Option.go (l1 xs) fun x => Option.go (vInt x) fun j => if rngOk j then .ok (.rng 0 j.toNat) S1 else .no
def wRng2 (gs : MA) : St → Sto → Res Wk := fun σ S => (gs σ S).bind fun xs S1 => Option.go (l2 xs) fun p => Option.go (vInt p.1) fun i => Option.go (vInt p.2) fun j => if rngOk i ∧ rngOk j then .ok (.rng i (j - i).toNat) S1 else .no
theorem sWRng1 {tg : Expr} {p : Pos} (hg : Gl X "range") (hm : X.mg "range" = none) (h : SA G X W [a] gs) (hs : starEach [a] X.env = [(false, eval a X.env)] := by rfl) : SI G X W tg (.Call (.Name "range" p) [a] [] pos) (wRng1 gs) := by
  obtain ⟨t, p, k⟩ := h
  refine ⟨_, pi_range1 hg hm p hs, fun m σ S H R' R w q => ?_⟩
  refine k m σ S H _ R w (WOk.bind q fun xs S1 m1 H1 e1 l1 w1 R1 q1 => ?_)
  obtain ⟨x, ea, q2⟩ := wgo q1
  obtain ⟨j, eb, q3⟩ := wgo q2
  obtain ⟨z, q4⟩ := wif q3
  cases l1_of ea
  cases vInt_of eb
  have z := rngOk_of z
  exact ⟨j, rfl, z.1, z.2, q4 m1 H1 _ .refl (Nat.le_refl _) R1 wk_rng⟩
theorem sWRng2 {tg : Expr} {p : Pos} (hg : Gl X "range") (hm : X.mg "range" = none) (h : SA G X W [a, b] gs) (hs : starEach [a, b] X.env = [(false, eval a X.env), (false, eval b X.env)] := by rfl) (hs2 : starEach [b] X.env = [(false, eval b X.env)] := by rfl) :
    SI G X W tg (.Call (.Name "range" p) [a, b] [] pos) (wRng2 gs) := by
  obtain ⟨t, p, k⟩ := h
  refine ⟨_, pi_range2 hg hm p hs hs2, fun m σ S H R' R w q => ?_⟩
  refine k m σ S H _ R w (WOk.bind q fun xs S1 m1 H1 e1 l1 w1 R1 q1 => ?_)
  obtain ⟨⟨x, y⟩, ea, q2⟩ := wgo q1
  obtain ⟨i, eb, q3⟩ := wgo q2
  obtain ⟨j, ec, q4⟩ := wgo q3
  obtain ⟨z, q5⟩ := wif q4
  cases l2_of ea
  cases (show x = _ from vInt_of eb)
  cases (show y = _ from vInt_of ec)
  have z1 := rngOk_of z.1
  have z2 := rngOk_of z.2
  exact ⟨i, j, rfl, ⟨z1.1, z1.2, z2.1, z2.2⟩, q5 m1 H1 _ .refl (Nat.le_refl _) R1 wk_rng⟩
end
end Hf

/-! Sim: defs and their calls; operators and built-ins by values. -/
namespace Hf
open PySem PySem.Spec L2

/-! ### defs -/
/-- what a def does: g, from its arguments and the store -/
def SpG (G : Fix) (K : PySem.W.Frag) (np : Nat) (g : List V → Sto → Res V) : Sp := fun vs H Q E => ∃ m S us, vs = mvs m us ∧ us.length = np ∧ Rel G K m S H ∧ wfs S.n us ∧ ROk G K mv wfV m S.n (g us S) Q E
def bodyF (N : List Str) (u : MS) (us : List V) (S : Sto) : Res V := match u (start N us) S with
  | .nx _ S' => .ok .non S'
  | .rt v S' => .ok v S'
  | .ex c d _ S' => .ex c d S'
  | _ => .no
/-- a def of the text, as it is called: x its name, f its address, k its level -/
structure Dfn (G : Fix) (P : Program) (w : World) (K : PySem.W.Frag) (mg : Str → Option Value) (base : Heap) (k : Nat) (x : Str) (f : Addr) (fd : FuncData) (ps : List Str) (g : List V → Sto → Res V) : Prop where
  ok : FnOk P w K mg base (L2.CX P w) k f fd ps (SpG G K ps.length g)
  mg : mg x = some (.ref f)
  kp : PySem.W.keepIn K (.ref f) = true
  bd : Binds K fd ps []
/-- the context of a def's body -/
structure Bd (X : Cx) (W : WX) (k : Nat) : Prop where
  tk : Takes X W
  hp : PassesOwn (model X.prog X.w) X.A X.env X.xe
  hr : Room k X.A
  calm : X.calm = true
section
variable {G : Fix} {P : Program} {w : World} {K : PySem.W.Frag} {mg : Str → Option Value} {base : Heap}
theorem start_mv (m : Nat → Addr) (N : List Str) (us : List V) : start N (mvs m us) = mst m (start N us) := by
  show (us.map (mv m)).map some ++ List.replicate (N.length - (us.map (mv m)).length) none = (us.map some ++ List.replicate (N.length - us.length) none).map (Option.map (mv m))
  rw [List.map_append, List.map_map, List.map_map, List.map_replicate, List.length_map]
  rfl
theorem start_wf {n : Nat} {N : List Str} {us : List V} (h : wfs n us) : wfσ n (start N us) := fun v hv => by
  unfold L2.start at hv
  rcases List.mem_append.mp hv with q | q
  · obtain ⟨y, hy, e⟩ := List.mem_map.mp q
    cases e
    exact h _ hy
  · exact nomatch (List.mem_replicate.mp q).2
theorem sDef {x qual : Str} {st : Stmt} {f : Addr} {fd : FuncData} {N ps : List Str} {k : Nat} {u : MS} (F : Fun K x qual st f fd) (Sc : FnScope N ps (defScope st))
    (h : ∀ (cdv : Value) (A : Around) (outer : List Env) (s : Shared) (H : Hp) (E : XK), Bd (cxOf (L2.CX P w) P w K mg base N qual (defScope st) f cdv A outer s H E) (fun c d _ H => E c d H) k →
      SSs G (cxOf (L2.CX P w) P w K mg base N qual (defScope st) f cdv A outer s H E) (fun c d _ H => E c d H) (defBody st) u) :
    FnOk P w K mg base (L2.CX P w) (k + 1) f fd ps (SpG G K ps.length (bodyF N u)) := by
  refine F.okX Sc (fun vs H Q E q => ?_) fun cdv A outer s H vs Q E hr q => ?_
  · obtain ⟨m, S, us, rfl, hl, _⟩ := q
    rw [List.length_map]
    exact hl
  · obtain ⟨m, S, us, rfl, hl, R, wf, q⟩ := q
    obtain ⟨t, p, kk⟩ := h cdv A outer s H E ⟨takes_of rfl rfl rfl rfl, passes_of rfl, hr, rfl⟩
    refine ⟨t, p, ?_⟩
    rw [start_mv]
    refine kk m (start N us) S H _ R (start_wf wf) ?_
    unfold bodyF at q
    cases e : u (start N us) S with
    | nx σ S' => rw [e] at q; exact fun m' H' e' l' _ R' => q m' H' e' l' trivial R'
    | rt v S' => rw [e] at q; exact q
    | ex c d σ S' => rw [e] at q; exact fun m' H' e' l' _ R' => q m' H' e' l' R'
    | bk σ S' => rw [e] at q; exact q.elim
    | ct σ S' => rw [e] at q; exact q.elim
    | no => rw [e] at q; exact q.elim
end

section
variable {G : Fix} {X : Cx} {W : WX} {e a b c : Expr} {es : List Expr} {ga gb : ME} {gs : MA} {pos p : Pos} {x : Str}
/-! ### calls -/
def gCall (n : Nat) (g : List V → Sto → Res V) (gs : MA) : ME := fun σ S => (gs σ S).bind fun vs S1 => if vs.length = n then g vs S1 else .no
theorem sCall {k : Nat} {f : Addr} {fd : FuncData} {ps : List Str} {g : List V → Sto → Res V} (D : Dfn G X.prog X.w X.K X.mg X.base k x f fd ps g) (hr : Room k X.A) (tk : Takes X W) (hg : Gl X x) (h : SA G X W (e :: es) gs)
    (hdb : (x == ("__debug__" : Str)) = false := by decide) (he : starEach (e :: es) X.env = (false, eval e X.env) :: starEach es X.env := by rfl) (hpl : (backTo pos (starEach es X.env)).any (·.1) = false := by rfl) :
    SE G X W (.Call (.Name x p) (e :: es) [] pos) (gCall ps.length g gs) := by
  obtain ⟨t, pt, kt⟩ := h
  refine ⟨_, pe_callS D.ok hr hg D.mg D.kp D.bd (passAt tk) pt hdb he hpl, fun m σ S H Q R w q => ?_⟩
  refine kt m σ S H _ R w (ROk.bind q fun vs S1 m1 H1 e1 l1 w1 R1 q1 => ?_)
  obtain ⟨hl, q1⟩ := if_ok q1
  exact ⟨m1, S1, vs, rfl, hl, R1, w1, q1⟩
theorem sCall0 {k : Nat} {f : Addr} {fd : FuncData} {ps : List Str} {g : List V → Sto → Res V} (D : Dfn G X.prog X.w X.K X.mg X.base k x f fd ps g) (hr : Room k X.A) (tk : Takes X W) (hg : Gl X x) 
    (hdb : (x == ("__debug__" : Str)) = false := by decide) : SE G X W (.Call (.Name x p) [] [] pos) (gCall ps.length g aNil) := by
  refine ⟨fun σ H Q => SpG G X.K ps.length g [] H Q (WE W σ), ⟨fun pins s σ H Q I h => ?_⟩, fun m σ S H Q R w q => ?_⟩
  · refine wpAny_Call_Name_kw (ld_glob I hg D.mg ?_ hdb)
    exact PySem.W.callWith_K0 I.kIn D.kp (run_fnS D.ok hr D.bd (passAt tk σ) I .nil h)
  · obtain ⟨hl, q1⟩ := if_ok (show ROk G X.K mv wfV m S.n (if ([] : List V).length = ps.length then g [] S else .no) Q _ from q)
    exact ⟨m, S, [], rfl, hl, R, (fun _ h => nomatch h), q1⟩

/-! ### built-ins -/
def SCb (G : Fix) (X : Cx) (W : WX) (f : Value) (g : List V → Sto → Res V) : Prop :=
  ∃ r, CallR X f r ∧ ∀ m σ S H xs Q, Rel G X.K m S H → wfs S.n xs → ROk G X.K mv wfV m S.n (g xs S) Q (fun c d H' => W c d σ H') → r (mvs m xs) H Q
def gCb (g : List V → Sto → Res V) (gs : MA) : ME := fun σ S => (gs σ S).bind g
theorem sCb {id : String} {g : List V → Sto → Res V} (hc : SCb G X W (.builtin id) g) (hg : Gl X x) (hm : X.mg x = none) (hv : bootBuiltins x = some (.builtin id)) (h : SA G X W (e :: es) gs) (hn : x ≠ "__name__" := by decide) (hdb : (x == ("__debug__" : Str)) = false := by decide)
    (he : starEach (e :: es) X.env = (false, eval e X.env) :: starEach es X.env := by rfl) (hpl : (backTo pos (starEach es X.env)).any (·.1) = false := by rfl) : SE G X W (.Call (.Name x p) (e :: es) [] pos) (gCb g gs) := by
  obtain ⟨r, pc, kc⟩ := hc
  obtain ⟨t, pt, kt⟩ := h
  refine ⟨_, pe_callB pc hg hm hv pt hn hdb he hpl, fun m σ S H Q R w q => ?_⟩
  refine kt m σ S H _ R w (ROk.bind q fun vs S1 m1 H1 e1 l1 w1 R1 q1 => ?_)
  exact kc m1 (mst m σ) S1 H1 vs Q R1 w1 q1
theorem sCty {T : String} {g : List V → Sto → Res V} (hc : SCb G X W (.type T) g) (hg : Gl X x) (hm : X.mg x = none) (hv : bootBuiltins x = some (.type T)) (h : SA G X W (e :: es) gs) (hn : x ≠ "__name__" := by decide) (hdb : (x == ("__debug__" : Str)) = false := by decide)
    (he : starEach (e :: es) X.env = (false, eval e X.env) :: starEach es X.env := by rfl) (hpl : (backTo pos (starEach es X.env)).any (·.1) = false := by rfl) : SE G X W (.Call (.Name x p) (e :: es) [] pos) (gCb g gs) := by
  obtain ⟨r, pc, kc⟩ := hc
  obtain ⟨t, pt, kt⟩ := h
  refine ⟨_, pe_callTy pc hg hm hv pt hn hdb he hpl, fun m σ S H Q R w q => ?_⟩
  refine kt m σ S H _ R w (ROk.bind q fun vs S1 m1 H1 e1 l1 w1 R1 q1 => ?_)
  exact kc m1 (mst m σ) S1 H1 vs Q R1 w1 q1
/-- a built-in type's method -/
def SMt (G : Fix) (X : Cx) (W : WX) (T id : String) (g : V → List V → Sto → Res V) : Prop :=
  ∃ r, MtR X id r ∧ ∀ m σ S H x xs Q, Rel G X.K m S H → wfV S.n x → wfs S.n xs → ROk G X.K mv wfV m S.n (g x xs S) Q (fun c d H' => W c d σ H') → r (mv m x) (mvs m xs) H Q
/-- the receiver's type is looked at ahead of the arguments -/
def isTy (T : String) (x : V) (S : Sto) : Bool := match x with
  | .str _ => T == "str"
  | .int _ => T == "int"
  | .ref a => match S.get a with
    | some (.lst _) => T == "list"
    | some (.frz _ _) => T == "list"
    | some (.dic _) => T == "dict"
    | _ => false
  | _ => false
theorem isTy_of {m : Nat → Addr} {S : Sto} {H : Hp} {T : String} {x : V} (R : Rel G X.K m S H) (h : isTy T x S = true) : tyV X.K T (mv m x) H := by
  cases x with
  | str z => exact beq_iff_eq.mp h
  | int i => exact beq_iff_eq.mp h
  | ref a =>
    unfold isTy at h
    simp only at h
    cases e : S.get a with
    | none => rw [e] at h; cases h
    | some o =>
      rw [e] at h
      cases o with
      | lst xs => exact .inl ⟨beq_iff_eq.mp h, _, SqL.of (R.holds _ _ e)⟩
      | frz b xs => exact .inl ⟨beq_iff_eq.mp h, _, (R.lstL (xs := xs) (by unfold lstAt; rw [e])).1⟩
      | dic kvs => exact .inr (.inr (.inl ⟨beq_iff_eq.mp h, .inl ⟨_, R.holds _ _ e⟩⟩))
      | _ => cases h
  | _ => cases h
def gMt (T : String) (g : V → List V → Sto → Res V) (o : ME) (gs : MA) : ME := fun σ S => (o σ S).bind fun x S1 => if isTy T x S1 then (gs σ S1).bind fun xs S2 => g x xs S2 else .no
theorem sMt {T id : String} {name : Str} {g : V → List V → Sto → Res V} {o : Expr} {go : ME} {apos cpos : Pos} (pa : PlainAttrs T) (slot : Slot T name id) (hty : typeOf (.builtin id) = pure (.type "method_descriptor")) (hc : SMt G X W T id g)
    (ho : SE G X W o go) (h : SA G X W (e :: es) gs)
    (hbase : attributeBase o name X.env (eval o X.env) = eval o X.env := by rfl)
    (hfew : ((backTo cpos (starEach (e :: es) X.env)).all (fun x => !x.1) && (backToKw cpos (keywordEach [] X.env)).all (fun x => x.1.isSome)
      && decide ((e :: es).length + ([] : List Keyword).length + (if ([] : List Keyword).isEmpty then 0 else 1) < 30)) = true := by rfl)
    (hline : (apos.endLine == cpos.line) = true := by rfl) (hst : starEach (e :: es) X.env = (false, eval e X.env) :: starEach es X.env := by rfl) (hpl : (backTo cpos (starEach es X.env)).any (·.1) = false := by rfl) : SE G X W (.Call (.Attribute o name apos) (e :: es) [] cpos) (gMt T g go gs) := by
  obtain ⟨r, pc, kc⟩ := hc
  obtain ⟨to, po, ko⟩ := ho
  obtain ⟨t, pt, kt⟩ := h
  refine ⟨_, pe_bm pa slot hty pc po pt hbase hfew hline hst hpl, fun m σ S H Q R w q => ?_⟩
  refine ko m σ S H _ R w (ROk.bind q fun x S1 m1 H1 e1 l1 w1 R1 q1 => ?_)
  obtain ⟨hT, q1⟩ := if_ok q1
  refine ⟨isTy_of R1 hT, ?_⟩
  rw [← mst_ext e1 w]
  refine kt m1 σ S1 H1 _ R1 (w.mono l1) (ROk.bind (sbw e1 w q1) fun vs S2 m2 H2 e2 l2 w2 R2 q2 => ?_)
  rw [← mv_ext e2 w1]
  exact kc m2 (mst m1 σ) S2 H2 x vs Q R2 (w1.mono l2) w2 q2
theorem sMt0 {T id : String} {name : Str} {g : V → List V → Sto → Res V} {o : Expr} {go : ME} {apos cpos : Pos} (pa : PlainAttrs T) (slot : Slot T name id) (hty : typeOf (.builtin id) = pure (.type "method_descriptor")) (hc : SMt G X W T id g)
    (ho : SE G X W o go)
    (hbase : attributeBase o name X.env (eval o X.env) = eval o X.env := by rfl) (hline : (apos.endLine == cpos.line) = true := by rfl) : SE G X W (.Call (.Attribute o name apos) [] [] cpos) (gMt T g go aNil) := by
  obtain ⟨r, pc, kc⟩ := hc
  obtain ⟨to, po, ko⟩ := ho
  refine ⟨_, pe_bm0 pa slot hty pc po hbase hline, fun m σ S H Q R w q => ?_⟩
  refine ko m σ S H _ R w (ROk.bind q fun x S1 m1 H1 e1 l1 w1 R1 q1 => ?_)
  obtain ⟨hT, q1⟩ := if_ok q1
  exact ⟨isTy_of R1 hT, kc m1 (mst m σ) S1 H1 x [] Q R1 w1 (fun _ h => nomatch h) q1⟩
end
end Hf

/-! Sim: operators and built-ins by values. -/
namespace Hf
open PySem PySem.Spec L2

def Res.or {α : Type} (r r2 : Res α) : Res α := match r with | .no => r2 | r => r
section
variable {G : Fix} {X : Cx} {W : WX}
theorem ROk.or {α β : Type} {f : (Nat → Addr) → α → β} {wf : Nat → α → Prop} {m : Nat → Addr} {n : Nat} {r r2 : Res α} {q : β → Hp → Prop} {x : Value → Option Addr → Hp → Prop} (h : ROk G X.K f wf m n (r.or r2) q x) : ROk G X.K f wf m n r q x ∨ ROk G X.K f wf m n r2 q x := by
  cases r with
  | no => exact .inr h
  | ok a S => exact .inl h
  | ex c d S => exact .inl h
/-- the answer is a plain value -/
theorem ok_plain {m : Nat → Addr} {S : Sto} {H : Hp} {v : V} {Q : VK} {x : Value → Option Addr → Hp → Prop} (R : Rel G X.K m S H) (h : ROk G X.K mv wfV m S.n (.ok v S) Q x) (w : wfV S.n v) : Q (mv m v) H := h m H .refl (Nat.le_refl _) w R

theorem OpR.or {f : Value → Value → Sem Value} {r r' : R2} (h : OpR X f r) (h' : OpR X f r') : OpR X f (fun x y H Q => r x y H Q ∨ r' x y H Q) := by
  intro pins s σ H x y v u Q I rx ry q
  rcases q with q | q
  · exact h pins s σ H x y v u Q I rx ry q
  · exact h' pins s σ H x y v u Q I rx ry q
theorem SO.or {f : Value → Value → Sem Value} {g g' : V → V → Sto → Res V} (h : SO G X W f g) (h' : SO G X W f g') : SO G X W f (fun x y S => (g x y S).or (g' x y S)) := by
  obtain ⟨r, p, k⟩ := h
  obtain ⟨r', p', k'⟩ := h'
  refine ⟨_, p.or p', fun m σ S H x y Q R wx wy q => ?_⟩
  rcases ROk.or q with q | q
  · exact .inl (k m σ S H x y Q R wx wy q)
  · exact .inr (k' m σ S H x y Q R wx wy q)
theorem SCb.or {f : Value} {g g' : List V → Sto → Res V} (h : SCb G X W f g) (h' : SCb G X W f g') : SCb G X W f (fun xs S => (g xs S).or (g' xs S)) := by
  obtain ⟨r, p, k⟩ := h
  obtain ⟨r', p', k'⟩ := h'
  refine ⟨_, p.or p', fun m σ S H xs Q R wx q => ?_⟩
  rcases ROk.or q with q | q
  · exact .inl (k m σ S H xs Q R wx q)
  · exact .inr (k' m σ S H xs Q R wx q)
theorem SMt.or {T id : String} {g g' : V → List V → Sto → Res V} (h : SMt G X W T id g) (h' : SMt G X W T id g') : SMt G X W T id (fun x xs S => (g x xs S).or (g' x xs S)) := by
  obtain ⟨r, p, k⟩ := h
  obtain ⟨r', p', k'⟩ := h'
  refine ⟨_, p.or p', fun m σ S H x xs Q R wx wy q => ?_⟩
  rcases ROk.or q with q | q
  · exact .inl (k m σ S H x xs Q R wx wy q)
  · exact .inr (k' m σ S H x xs Q R wx wy q)

/-! ### ints -/
def oInt (c : Int → Int → Bool) (g : Int → Int → V) : V → V → Sto → Res V := fun x y S => Option.go (vInt x) fun i => Option.go (vInt y) fun j => if c i j then .ok (g i j) S else .no
theorem sInt2 {f : Value → Value → Sem Value} {C : Int → Int → Prop} {g : Int → Int → V} {c : Int → Int → Bool} (h : OpR X f (rI C g)) (hc : ∀ i j, c i j = true → C i j) (hg : ∀ i j a, g i j ≠ .ref a) : SO G X W f (oInt c g) := by
  refine ⟨_, h, fun m σ S H x y Q R wx wy q => ?_⟩
  obtain ⟨i, ei, q⟩ := go_ok q
  obtain ⟨j, ej, q⟩ := go_ok q
  obtain ⟨z, q⟩ := if_ok q
  rw [vInt_of ei, vInt_of ej]
  refine ⟨i, j, rfl, rfl, hc i j z, ?_⟩
  have w : wfV S.n (g i j) := by
    cases e : g i j with
    | ref a => exact (hg i j a e).elim
    | _ => trivial
  have z := ok_plain R q w
  cases e : g i j with
  | ref a => exact (hg i j a e).elim
  | _ => rw [e] at z; exact z
theorem of0 {f : Value → Value → Sem Value} {g : Int → Int → V} (h : OpR X f (rI0 g)) : OpR X f (rI (fun _ _ => True) g) := by
  intro pins s σ H x y v u Q I rx ry q
  obtain ⟨i, j, e1, e2, _, q⟩ := q
  exact h pins s σ H x y v u Q I rx ry ⟨i, j, e1, e2, q⟩
def yes2 : Int → Int → Bool := fun _ _ => true
abbrev oAddI := oInt yes2 fun i j => .int (i + j)
theorem sAddI : SO G X W (binaryOp .Add) oAddI := sInt2 (of0 op_add) (fun _ _ _ => trivial) (fun _ _ _ => nofun)
abbrev oSubI := oInt yes2 fun i j => .int (i - j)
theorem sSubI : SO G X W (binaryOp .Sub) oSubI := sInt2 (of0 op_sub) (fun _ _ _ => trivial) (fun _ _ _ => nofun)
def cMulW (i j : Int) : Bool := decide (i.natAbs.log2 + j.natAbs.log2 < 1000000)
abbrev oMulI := oInt cMulW fun i j => .int (i * j)
theorem sMulI : SO G X W (binaryOp .Mult) oMulI := sInt2 op_mulW (fun i j h => show i.natAbs.log2 + j.natAbs.log2 < 1000000 from of_decide_eq_true h) (fun _ _ _ => nofun)
def cPos (_ j : Int) : Bool := decide (0 < j)
abbrev oModI := oInt cPos fun i j => .int (i % j)
theorem sModI : SO G X W (binaryOp .Mod) oModI := sInt2 op_mod (fun _ _ h => of_decide_eq_true h) (fun _ _ _ => nofun)
def cDivW (_ j : Int) : Bool := decide (0 < j) && decide (j.natAbs.log2 < 9000)
abbrev oDivI := oInt cDivW fun i j => .int (i / j)
theorem sDivI : SO G X W (binaryOp .FloorDiv) oDivI := sInt2 op_fdivW (fun i j h => by
  have z := Bool.and_eq_true_iff.mp h
  exact ⟨of_decide_eq_true z.1, of_decide_eq_true z.2⟩) (fun _ _ _ => nofun)
def CPowW (i j : Int) : Prop := 0 ≤ j ∧ (Builtin.Int.intBits i : Int) * j ≤ 2 ^ 27
theorem op_powW : OpR X (binaryOp .Pow) (rI CPowW fun i j => .int (i ^ j.toNat)) := opI fun _ _ _ _ _ _ _ hc q => PyProof.Rows.pow_int hc.1 hc.2 q
def cPowW (i j : Int) : Bool := decide (0 ≤ j) && decide ((Builtin.Int.intBits i : Int) * j ≤ 2 ^ 27)
abbrev oPowI := oInt cPowW fun i j => .int (i ^ j.toNat)
theorem sPowI : SO G X W (binaryOp .Pow) oPowI := sInt2 op_powW (fun i j h => by
  have z := Bool.and_eq_true_iff.mp h
  exact ⟨of_decide_eq_true z.1, of_decide_eq_true z.2⟩) (fun _ _ _ => nofun)
abbrev oLt := oInt yes2 fun i j => .bl (decide (i < j))
abbrev oLe := oInt yes2 fun i j => .bl (decide (i ≤ j))
abbrev oGt := oInt yes2 fun i j => .bl (decide (j < i))
abbrev oGe := oInt yes2 fun i j => .bl (decide (j ≤ i))
theorem sLt : SO G X W (compareOp .Lt) oLt := sInt2 (of0 op_lt) (fun _ _ _ => trivial) (fun _ _ _ => nofun)
theorem sLe : SO G X W (compareOp .LtE) oLe := sInt2 (of0 op_le) (fun _ _ _ => trivial) (fun _ _ _ => nofun)
theorem sGt : SO G X W (compareOp .Gt) oGt := sInt2 (of0 op_gt) (fun _ _ _ => trivial) (fun _ _ _ => nofun)
theorem sGe : SO G X W (compareOp .GtE) oGe := sInt2 (of0 op_ge) (fun _ _ _ => trivial) (fun _ _ _ => nofun)

/-! ### texts, lists -/
def oAddS : V → V → Sto → Res V := fun x y S => Option.go (vStr x) fun i => Option.go (vStr y) fun j => if szOk (i.length + j.length) then .ok (.str (i ++ j)) S else .no
theorem sAddS : SO G X W (binaryOp .Add) oAddS := by
  refine ⟨_, op_add_str, fun m σ S H x y Q R wx wy q => ?_⟩
  obtain ⟨i, ei, q⟩ := go_ok q
  obtain ⟨j, ej, q⟩ := go_ok q
  obtain ⟨z, q⟩ := if_ok q
  rw [vStr_of ei, vStr_of ej]
  exact ⟨i, j, rfl, rfl, szOk_of z, ok_plain R q trivial⟩
/-- the list at a place that may be changed -/
def mutAt (S : Sto) (a : Nat) : Option (List V) := match S.get a with | some (.lst xs) => some xs | _ => none
theorem mutAt_of {S : Sto} {a : Nat} {xs : List V} (h : mutAt S a = some xs) : S.get a = some (.lst xs) := by
  unfold mutAt at h
  split at h
  · cases h; assumption
  · cases h
def oCat : V → V → Sto → Res V := fun x y S => Option.go (vRef x) fun a => Option.go (vRef y) fun b => Option.go (mutAt S a) fun xs => Option.go (mutAt S b) fun ys => newL (xs ++ ys) S
theorem sCat : SO G X W (binaryOp .Add) oCat := by
  refine ⟨_, op_cat, fun m σ S H x y Q R wx wy q => ?_⟩
  obtain ⟨a, ea, q⟩ := go_ok q
  obtain ⟨b, eb, q⟩ := go_ok q
  obtain ⟨xs, ex, q⟩ := go_ok q
  obtain ⟨ys, ey, q⟩ := go_ok q
  rw [vRef_of ea, vRef_of eb]
  have hx := R.holds _ _ (mutAt_of ex)
  have hy := R.holds _ _ (mutAt_of ey)
  have wx := R.wf _ _ (mutAt_of ex)
  have wy := R.wf _ _ (mutAt_of ey)
  obtain ⟨h1, h2⟩ := newL_ok R (fun z hz => (List.mem_append.mp hz).elim (wx z) (wy z)) q
  refine ⟨_, _, _, _, rfl, rfl, hx, hy, ?_, ?_⟩
  · rw [List.length_map, List.length_append] at h1
    rw [List.length_map, List.length_map]
    exact h1
  · rw [← List.map_append]
    exact h2
/-- text * int -/
def repS (x : Str) (n : Int) : Str := if n < 1 then Str.empty else if (n == 1 || x.length == 0) = true then x else ⟨(List.replicate n.toNat x.cps).foldl (· ++ ·) #[]⟩
def cRepS (x : Str) (n : Int) : Bool := decide (-(2 ^ 30) ≤ n) && decide (n < 2 ^ 20) && decide (x.length ≤ 16)
theorem op_repS : OpR X (binaryOp .Mult) (fun x y H Q => ∃ z n, x = .str z ∧ y = .int n ∧ cRepS z n = true ∧ Q (.str (repS z n)) H) := by
  intro pins s σ H x y v u Q I rx ry h
  obtain ⟨z, n, rfl, rfl, hc, q⟩ := h
  obtain ⟨t, rfl⟩ := rx
  obtain ⟨t', rfl⟩ := ry
  unfold cRepS at hc
  rw [Bool.and_eq_true, Bool.and_eq_true] at hc
  have h1 : -(2 ^ 30) ≤ n := of_decide_eq_true hc.1.1
  have h2 : n < 2 ^ 20 := of_decide_eq_true hc.1.2
  have h3 : z.length ≤ 16 := of_decide_eq_true hc.2
  have hlong : Builtin.Str.tooLong (z.length * n.toNat) = false := by
    unfold Builtin.Str.tooLong
    refine decide_eq_false ?_
    have : z.length * n.toNat ≤ 16 * 2 ^ 20 := Nat.mul_le_mul h3 (by omega)
    have hsl := sizeLine_eq
    omega
  refine PySem.P.mul_str (by rw [decide_eq_false (by omega), decide_eq_false (by omega)]; rfl) (fun hn _ => ?_) (fun _ _ => ?_) ?_
  · have : (1000000 : Int) ≤ (2 ^ 63 - 1) / n := by
      rw [Int.le_ediv_iff_mul_le (by omega)]
      omega
    omega
  · exact hlong
  · unfold repS at q
    by_cases c1 : n < 1
    · rw [if_pos c1] at q ⊢
      exact ⟨by decide, ⟨.str _, H, I.tok _, ⟨_, rfl⟩, q⟩⟩
    · rw [if_neg c1] at q ⊢
      by_cases c2 : (n == 1 || z.length == 0) = true
      · rw [if_pos c2] at q ⊢
        exact ⟨.str _, H, I, ⟨t, rfl⟩, q⟩
      · rw [if_neg c2] at q ⊢
        exact ⟨fits_reps hlong, ⟨.str _, H, I.tok _, ⟨_, rfl⟩, q⟩⟩
def oRepS : V → V → Sto → Res V := fun x y S => Option.go (vStr x) fun z => Option.go (vInt y) fun n => if cRepS z n then .ok (.str (repS z n)) S else .no
theorem sRepS : SO G X W (binaryOp .Mult) oRepS := by
  refine ⟨_, op_repS, fun m σ S H x y Q R wx wy q => ?_⟩
  obtain ⟨i, ei, q⟩ := go_ok q
  obtain ⟨j, ej, q⟩ := go_ok q
  obtain ⟨z, q⟩ := if_ok q
  rw [vStr_of ei, vInt_of ej]
  exact ⟨i, j, rfl, rfl, z, ok_plain R q trivial⟩
end
end Hf

/-! Sim: comparisons, subscripts, lengths, methods by values. -/
namespace Hf
open PySem PySem.Spec L2
section
variable {G : Fix} {X : Cx} {W : WX}

/-! ### == and != of plain values, of data -/
theorem mv_plain {m : Nat → Addr} {x y : V} (h : scal x y = true) : mv m x = x ∧ mv m y = y := by
  cases x <;> cases y <;> first | exact ⟨rfl, rfl⟩ | cases h
def oEqS : V → V → Sto → Res V := fun x y S => if scal x y then .ok (.bl (decide (x = y))) S else .no
def oNeS : V → V → Sto → Res V := fun x y S => if scal x y then .ok (.bl (!decide (x = y))) S else .no
theorem sEqS : SO G X W (compareOp .Eq) oEqS := by
  refine ⟨_, op_eq, fun m σ S H x y Q R wx wy q => ?_⟩
  obtain ⟨z, q⟩ := if_ok q
  obtain ⟨e1, e2⟩ := mv_plain (m := m) z
  rw [e1, e2]
  exact ⟨z, ok_plain R q trivial⟩
theorem sNeS : SO G X W (compareOp .NotEq) oNeS := by
  refine ⟨_, op_ne, fun m σ S H x y Q R wx wy q => ?_⟩
  obtain ⟨z, q⟩ := if_ok q
  obtain ⟨e1, e2⟩ := mv_plain (m := m) z
  rw [e1, e2]
  exact ⟨z, ok_plain R q trivial⟩
def mapO {α β : Type} (f : α → Option β) : List α → Option (List β)
  | [] => some []
  | x :: xs => match f x with
    | some y => match mapO f xs with
      | some ys => some (y :: ys)
      | none => none
    | none => none
/-- a value as data -/
def dat : Nat → Sto → V → Option PyData
  | _, _, .non => some .none
  | _, _, .bl b => some (.bool b)
  | _, _, .int i => some (.int i)
  | _, _, .str x => some (.str x)
  | n + 1, S, .ref a => match lstAt S a with
    | some xs => (mapO (dat n S) xs).map .list
    | none => match tupAt S a with
      | some xs => (mapO (dat n S) xs).map .tuple
      | none => none
  | _, _, _ => none
theorem dpAll_of {K : PySem.W.Frag} {H : Hp} {m : Nat → Addr} {f : V → Option PyData} (hf : ∀ v d, f v = some d → Dp K H (mv m v) d) : ∀ (xs : List V) (ds : List PyData), mapO f xs = some ds → DpAll K H (mvs m xs) ds
  | [], ds, h => by cases h; exact .nil
  | x :: xs, ds, h => by
    unfold mapO at h
    cases e : f x with
    | none => rw [e] at h; cases h
    | some y =>
      rw [e] at h
      simp only at h
      cases e2 : mapO f xs with
      | none => rw [e2] at h; cases h
      | some ys =>
        rw [e2] at h
        cases h
        exact .cons (hf x y e) (dpAll_of hf xs ys e2)
theorem dat_ok {K : PySem.W.Frag} {m : Nat → Addr} {S : Sto} {H : Hp} (R : Rel G K m S H) : ∀ (n : Nat) (v : V) (d : PyData), dat n S v = some d → Dp K H (mv m v) d := by
  intro n
  induction n with
  | zero =>
    intro v d h
    cases v with
    | non => cases h; exact .non
    | bl b => cases h; exact .bl b
    | int i => cases h; exact .int i
    | str x => cases h; exact .str x
    | _ => cases h
  | succ n ih =>
    intro v d h
    cases v with
    | non => cases h; exact .non
    | bl b => cases h; exact .bl b
    | int i => cases h; exact .int i
    | str x => cases h; exact .str x
    | ref a =>
      unfold dat at h
      cases e : lstAt S a with
      | some xs =>
        rw [e] at h
        simp only at h
        cases e2 : mapO (dat n S) xs with
        | none => rw [e2] at h; cases h
        | some ds => rw [e2] at h; cases h; exact .lst (R.lstL e).1 (dpAll_of ih xs ds e2)
      | none =>
        rw [e] at h
        simp only at h
        cases e3 : tupAt S a with
        | none => rw [e3] at h; cases h
        | some xs =>
          rw [e3] at h
          simp only at h
          cases e2 : mapO (dat n S) xs with
          | none => rw [e2] at h; cases h
          | some ds => rw [e2] at h; cases h; exact .tup (R.tupT e3).1 (dpAll_of ih xs ds e2)
    | _ => cases h
def DEPTH : Nat := 64
def oEqD : V → V → Sto → Res V := fun x y S => Option.go (dat DEPTH S x) fun d => Option.go (dat DEPTH S y) fun e => if SeqAt.shaped d ∧ SeqAt.shaped e then .ok (.bl (PyData.eqv d e)) S else .no
def oNeD : V → V → Sto → Res V := fun x y S => Option.go (dat DEPTH S x) fun d => Option.go (dat DEPTH S y) fun e => if SeqAt.shaped d ∧ SeqAt.shaped e then .ok (.bl (!PyData.eqv d e)) S else .no
theorem sEqD (hu : X.A.units + 64 < cLine) : SO G X W (compareOp .Eq) oEqD := by
  refine ⟨_, op_eqD hu, fun m σ S H x y Q R wx wy q => ?_⟩
  obtain ⟨d, ed, q⟩ := go_ok q
  obtain ⟨e, ee, q⟩ := go_ok q
  obtain ⟨z, q⟩ := if_ok q
  exact ⟨d, e, dat_ok R _ _ _ ed, dat_ok R _ _ _ ee, z.1, z.2, ok_plain R q trivial⟩
theorem sNeD (hu : X.A.units + 64 < cLine) : SO G X W (compareOp .NotEq) oNeD := by
  refine ⟨_, op_neD hu, fun m σ S H x y Q R wx wy q => ?_⟩
  obtain ⟨d, ed, q⟩ := go_ok q
  obtain ⟨e, ee, q⟩ := go_ok q
  obtain ⟨z, q⟩ := if_ok q
  exact ⟨d, e, dat_ok R _ _ _ ed, dat_ok R _ _ _ ee, z.1, z.2, ok_plain R q trivial⟩

/-! ### in, not in; is None -/
/-- a text in a text: of one sign (by its codes), else by the search -/
def strIn (i j : Str) : Bool := !(Builtin.Str.occurrences j i 0 j.length 1).isEmpty
def oInS : V → V → Sto → Res V := fun x y S => Option.go (vStr x) fun i => Option.go (vStr y) fun j => .ok (.bl (strIn i j)) S
def oNotInS : V → V → Sto → Res V := fun x y S => Option.go (vStr x) fun i => Option.go (vStr y) fun j => .ok (.bl (!strIn i j)) S
theorem sInS : SO G X W (compareOp .In) oInS := by
  refine ⟨_, op_in_str, fun m σ S H x y Q R wx wy q => ?_⟩
  obtain ⟨i, ei, q⟩ := go_ok q
  obtain ⟨j, ej, q⟩ := go_ok q
  rw [vStr_of ei, vStr_of ej]
  exact ⟨i, j, rfl, rfl, ok_plain R q trivial⟩
theorem sNotInS : SO G X W (compareOp .NotIn) oNotInS := by
  refine ⟨_, op_notin_str, fun m σ S H x y Q R wx wy q => ?_⟩
  obtain ⟨i, ei, q⟩ := go_ok q
  obtain ⟨j, ej, q⟩ := go_ok q
  rw [vStr_of ei, vStr_of ej]
  exact ⟨i, j, rfl, rfl, ok_plain R q trivial⟩
theorem strIn_one (c : Nat) (z : Str) : strIn ⟨#[c]⟩ z = decide (c ∈ z.cps.toList) := PySem.StrLaws.found_one z c
/-- x in a list or tuple, all flat -/
theorem flat_mv {m : Nat → Addr} {x : V} (h : flatV x = true) : mv m x = x := by cases x <;> first | rfl | cases h
theorem flats_mv {m : Nat → Addr} {xs : List V} (h : xs.all flatV = true) : mvs m xs = xs := by
  rw [List.all_eq_true] at h
  exact (List.map_congr_left fun x hx => flat_mv (h x hx)).trans (List.map_id _)
def oInF (neg : Bool) : V → V → Sto → Res V := fun x y S => Option.go (vRef y) fun a => Option.go (seqAt S a) fun xs => if flatV x ∧ xs.all flatV then .ok (.bl (if neg then !inV x xs else inV x xs)) S else .no
theorem sInF : SO G X W (compareOp .In) (oInF false) := by
  refine ⟨_, op_in_seq, fun m σ S H x y Q R wx wy q => ?_⟩
  obtain ⟨a, ea, q⟩ := go_ok q
  obtain ⟨xs, ex, q⟩ := go_ok q
  obtain ⟨z, q⟩ := if_ok q
  rw [vRef_of ea]
  have w := (R.seq ex).1
  rw [flats_mv z.2] at w
  rw [flat_mv z.1]
  exact ⟨m a, xs, rfl, w.elim (fun k => .inl k.1) fun k => .inr k.1, z.1, z.2, ok_plain R q trivial⟩
theorem sNotInF : SO G X W (compareOp .NotIn) (oInF true) := by
  refine ⟨_, op_notIn_seq, fun m σ S H x y Q R wx wy q => ?_⟩
  obtain ⟨a, ea, q⟩ := go_ok q
  obtain ⟨xs, ex, q⟩ := go_ok q
  obtain ⟨z, q⟩ := if_ok q
  rw [vRef_of ea]
  have w := (R.seq ex).1
  rw [flats_mv z.2] at w
  rw [flat_mv z.1]
  exact ⟨m a, xs, rfl, w.elim (fun k => .inl k.1) fun k => .inr k.1, z.1, z.2, ok_plain R q trivial⟩
def dLst : PyData → Option (List PyData) | .list ds => some ds | _ => none
/-- data in a list of data -/
def oInD (neg : Bool) : V → V → Sto → Res V := fun x y S => Option.go (dat DEPTH S x) fun d => Option.go (dat DEPTH S y) fun e => Option.go (dLst e) fun ds =>
  if SeqAt.shaped d ∧ SeqAt.shaped (.list ds) then .ok (.bl (if neg then !(ds.any fun z => PyData.eqv z d) else ds.any fun z => PyData.eqv z d)) S else .no
theorem dLst_of {e : PyData} {ds : List PyData} (h : dLst e = some ds) : e = .list ds := by cases e <;> cases h; rfl
theorem sInD (hu : X.A.units + 65 < cLine) : SO G X W (compareOp .In) (oInD false) := by
  refine ⟨_, op_inD hu, fun m σ S H x y Q R wx wy q => ?_⟩
  obtain ⟨d, ed, q⟩ := go_ok q
  obtain ⟨e, ee, q⟩ := go_ok q
  obtain ⟨ds, el, q⟩ := go_ok q
  obtain ⟨z, q⟩ := if_ok q
  rw [dLst_of el] at ee
  exact ⟨d, ds, dat_ok R _ _ _ ed, dat_ok R _ _ _ ee, z.1, z.2, ok_plain R q trivial⟩
theorem sNotInD (hu : X.A.units + 65 < cLine) : SO G X W (compareOp .NotIn) (oInD true) := by
  refine ⟨_, op_notInD hu, fun m σ S H x y Q R wx wy q => ?_⟩
  obtain ⟨d, ed, q⟩ := go_ok q
  obtain ⟨e, ee, q⟩ := go_ok q
  obtain ⟨ds, el, q⟩ := go_ok q
  obtain ⟨z, q⟩ := if_ok q
  rw [dLst_of el] at ee
  exact ⟨d, ds, dat_ok R _ _ _ ed, dat_ok R _ _ _ ee, z.1, z.2, ok_plain R q trivial⟩
def vNon : V → Bool | .non => true | _ => false
theorem vNon_mv {m : Nat → Addr} {x : V} : decide (mv m x = .non) = vNon x := by cases x <;> rfl
def oIsN : V → V → Sto → Res V := fun x y S => if vNon y then .ok (.bl (vNon x)) S else .no
def oIsNotN : V → V → Sto → Res V := fun x y S => if vNon y then .ok (.bl (!vNon x)) S else .no
theorem sIsN : SO G X W (compareOp .Is) oIsN := by
  refine ⟨_, op_isN, fun m σ S H x y Q R wx wy q => ?_⟩
  obtain ⟨z, q⟩ := if_ok q
  rw [← vNon_mv (m := m)] at z
  refine ⟨of_decide_eq_true z, ?_⟩
  rw [vNon_mv]
  exact ok_plain R q trivial
theorem sIsNotN : SO G X W (compareOp .IsNot) oIsNotN := by
  refine ⟨_, op_notN, fun m σ S H x y Q R wx wy q => ?_⟩
  obtain ⟨z, q⟩ := if_ok q
  rw [← vNon_mv (m := m)] at z
  refine ⟨of_decide_eq_true z, ?_⟩
  rw [vNon_mv]
  exact ok_plain R q trivial

/-! ### subscripts -/
def SIx (G : Fix) (X : Cx) (W : WX) (g : V → V → Sto → Res V) : Prop :=
  ∃ r, IxR X r ∧ ∀ m σ S H x y Q, Rel G X.K m S H → wfV S.n x → wfV S.n y → ROk G X.K mv wfV m S.n (g x y S) Q (fun c d H' => W c d σ H') → r (mv m x) (mv m y) H Q
theorem SIx.or {g g' : V → V → Sto → Res V} (h : SIx G X W g) (h' : SIx G X W g') : SIx G X W (fun x y S => (g x y S).or (g' x y S)) := by
  obtain ⟨r, p, k⟩ := h
  obtain ⟨r', p', k'⟩ := h'
  refine ⟨_, IxR.or p p', fun m σ S H x y Q R wx wy q => ?_⟩
  rcases ROk.or q with q | q
  · exact .inl (k m σ S H x y Q R wx wy q)
  · exact .inr (k' m σ S H x y Q R wx wy q)
variable {a b : Expr} {ha hb : ME} {pos : Pos}
theorem sSub {g : V → V → Sto → Res V} (ho : SIx G X W g) (h : SE G X W a ha) (h2 : SE G X W b hb) (hs : PlainIx b := by intro _ _; rfl) : SE G X W (.Subscript a b pos) (gBin g ha hb) := by
  obtain ⟨r, po, kr⟩ := ho
  obtain ⟨t, p, k⟩ := h
  obtain ⟨t2, p2, k2⟩ := h2
  exact ⟨_, pe_ix po p p2 hs, bin_run k k2 kr⟩
theorem atI_mv {m : Nat → Addr} {xs : List V} {i : Int} {v : V} (h : atI xs i = some v) : atI (mvs m xs) i = some (mv m v) := by
  unfold atI at h ⊢
  rw [List.length_map]
  cases e : ixN xs.length i with
  | none => rw [e] at h; cases h
  | some j =>
    rw [e] at h
    exact mv_get h
theorem atI_mem {xs : List V} {i : Int} {v : V} (h : atI xs i = some v) : v ∈ xs := by
  unfold atI at h
  cases e : ixN xs.length i with
  | none => rw [e] at h; cases h
  | some j => rw [e] at h; exact List.mem_of_getElem? h
def iLst : V → V → Sto → Res V := fun x y S => Option.go (vRef x) fun a => Option.go (vInt y) fun i => Option.go (lstAt S a) fun xs => Option.go (atI xs i) fun v => .ok v S
theorem sILst : SIx G X W iLst := by
  refine ⟨_, ix_list, fun m σ S H x y Q R wx wy q => ?_⟩
  obtain ⟨a, ea, q⟩ := go_ok q
  obtain ⟨i, ei, q⟩ := go_ok q
  obtain ⟨xs, ex, q⟩ := go_ok q
  obtain ⟨v, ev, q⟩ := go_ok q
  rw [vRef_of ea, vInt_of ei]
  exact ⟨m a, _, i, _, rfl, rfl, (R.lstL ex).1, atI_mv ev, ok_plain R q ((R.lstL ex).2 v (atI_mem ev))⟩
def iTup : V → V → Sto → Res V := fun x y S => Option.go (vRef x) fun a => Option.go (vInt y) fun i => Option.go (tupAt S a) fun xs => Option.go (atI xs i) fun v => .ok v S
theorem sITup : SIx G X W iTup := by
  refine ⟨_, ix_tup, fun m σ S H x y Q R wx wy q => ?_⟩
  obtain ⟨a, ea, q⟩ := go_ok q
  obtain ⟨i, ei, q⟩ := go_ok q
  obtain ⟨xs, ex, q⟩ := go_ok q
  obtain ⟨v, ev, q⟩ := go_ok q
  rw [vRef_of ea, vInt_of ei]
  exact ⟨m a, _, i, _, rfl, rfl, (R.tupT ex).1, atI_mv ev, ok_plain R q ((R.tupT ex).2 v (atI_mem ev))⟩
def iStr : V → V → Sto → Res V := fun x y S => Option.go (vStr x) fun z => Option.go (vInt y) fun i => Option.go (atI z.cps.toList i) fun c => if szOk z.length then .ok (.str ⟨#[c]⟩) S else .no
theorem sIStr : SIx G X W iStr := by
  refine ⟨_, ix_str, fun m σ S H x y Q R wx wy q => ?_⟩
  obtain ⟨z, ea, q⟩ := go_ok q
  obtain ⟨i, ei, q⟩ := go_ok q
  obtain ⟨c, ec, q⟩ := go_ok q
  obtain ⟨k, q⟩ := if_ok q
  rw [vStr_of ea, vInt_of ei]
  exact ⟨z, i, c, rfl, rfl, szOk_of k, ec, ok_plain R q trivial⟩
abbrev iSeq : V → V → Sto → Res V := fun x y S => (iLst x y S).or ((fun x y S => (iTup x y S).or (iStr x y S)) x y S)
theorem sISeq : SIx G X W iSeq := sILst.or (sITup.or sIStr)

/-! ### slices -/
def SP' (G : Fix) (X : Cx) (W : WX) (e : Option Expr) (g : St → Sto → Res (Option Int)) : Prop := ∃ t, PO X e t ∧ ∀ m σ S H Q, Rel G X.K m S H → wfσ S.n σ → ROk G X.K (fun _ b => b) (fun _ _ => True) m S.n (g σ S) Q (fun c d H' => W c d (mst m σ) H') → t (mst m σ) H Q
def pNone : St → Sto → Res (Option Int) := fun _ S => .ok none S
def pSome (g : ME) : St → Sto → Res (Option Int) := fun σ S => (g σ S).bind fun x S1 => Option.go (vInt x) fun i => .ok (some i) S1
theorem sPNone : SP' G X W none pNone := ⟨_, po_none, fun m σ S H Q R w q => q m H .refl (Nat.le_refl _) trivial R⟩
theorem sPSome (h : SE G X W a ha) : SP' G X W (some a) (pSome ha) := by
  obtain ⟨t, p, k⟩ := h
  refine ⟨_, po_some p, fun m σ S H Q R w q => ?_⟩
  refine k m σ S H _ R w (ROk.bind q fun x S1 m1 H1 e1 l1 w1 R1 q1 => ?_)
  obtain ⟨i, ei, q2⟩ := go_ok q1
  rw [vInt_of ei]
  exact ⟨i, rfl, q2 m1 H1 .refl (Nat.le_refl _) trivial R1⟩
def SSl (G : Fix) (X : Cx) (W : WX) (g : V → Option Int → Option Int → Sto → Res V) : Prop :=
  ∃ r, SlR X r ∧ ∀ m σ S H x l u Q, Rel G X.K m S H → wfV S.n x → ROk G X.K mv wfV m S.n (g x l u S) Q (fun c d H' => W c d σ H') → r (mv m x) l u H Q
theorem SSl.or {g g' : V → Option Int → Option Int → Sto → Res V} (h : SSl G X W g) (h' : SSl G X W g') : SSl G X W (fun x l u S => (g x l u S).or (g' x l u S)) := by
  obtain ⟨r, p, k⟩ := h
  obtain ⟨r', p', k'⟩ := h'
  refine ⟨_, SlR.or p p', fun m σ S H x l u Q R wx q => ?_⟩
  rcases ROk.or q with q | q
  · exact .inl (k m σ S H x l u Q R wx q)
  · exact .inr (k' m σ S H x l u Q R wx q)
def gSl (g : V → Option Int → Option Int → Sto → Res V) (o : ME) (lo hi : St → Sto → Res (Option Int)) : ME := fun σ S => (o σ S).bind fun x S1 => (lo σ S1).bind fun l S2 => (hi σ S2).bind fun u S3 => g x l u S3
theorem sSlice {g : V → Option Int → Option Int → Sto → Res V} {lo hi : Option Expr} {gl gh : St → Sto → Res (Option Int)} {p2 : Pos} (hr : SSl G X W g) (h : SE G X W a ha) (h1 : SP' G X W lo gl) (h2 : SP' G X W hi gh) : SE G X W (.Subscript a (.Slice lo hi none p2) pos) (gSl g ha gl gh) := by
  obtain ⟨r, pr, kr⟩ := hr
  obtain ⟨t, p, k⟩ := h
  obtain ⟨t1, p1, k1⟩ := h1
  obtain ⟨t2, p2', k2⟩ := h2
  refine ⟨_, pe_slice pr p p1 p2', fun m σ S H Q R w q => ?_⟩
  refine k m σ S H _ R w (ROk.bind q fun x S1 m1 H1 e1 l1 w1 R1 q1 => ?_)
  rw [← mst_ext e1 w]
  refine k1 m1 σ S1 H1 _ R1 (w.mono l1) (ROk.bind (sbw e1 w q1) fun l S2 m2 H2 e2 l2 _ R2 q2 => ?_)
  rw [← mst_ext e2 (w.mono l1)]
  refine k2 m2 σ S2 H2 _ R2 ((w.mono l1).mono l2) (ROk.bind (sbw e2 (w.mono l1) q2) fun u S3 m3 H3 e3 l3 _ R3 q3 => ?_)
  rw [← mv_ext (e2.trans e3 l2) w1]
  exact kr m3 (mst m2 σ) S3 H3 x l u Q R3 (w1.mono (Nat.le_trans l2 l3)) q3
theorem cutV_mv {m : Nat → Addr} {xs : List V} {l u : Option Int} : cutV (mvs m xs) l u = mvs m (cutV xs l u) := by
  unfold cutV
  rw [List.length_map, ← List.map_drop, ← List.map_take]
theorem cutV_mem {xs : List V} {l u : Option Int} {x : V} (h : x ∈ cutV xs l u) : x ∈ xs := List.mem_of_mem_drop (List.mem_of_mem_take h)
def cLst : V → Option Int → Option Int → Sto → Res V := fun x l u S => Option.go (vRef x) fun a => Option.go (lstAt S a) fun xs => newL (cutV xs l u) S
theorem sCLst : SSl G X W cLst := by
  refine ⟨_, sl_list, fun m σ S H x l u Q R wx q => ?_⟩
  obtain ⟨a, ea, q⟩ := go_ok q
  obtain ⟨xs, ex, q⟩ := go_ok q
  rw [vRef_of ea]
  refine ⟨m a, _, rfl, (R.lstL ex).1, ?_⟩
  rw [cutV_mv]
  exact (newL_ok R (fun z hz => (R.lstL ex).2 z (cutV_mem hz)) q).2
def cStr : V → Option Int → Option Int → Sto → Res V := fun x l u S => Option.go (vStr x) fun z => if szOk z.length then .ok (.str (cutS z l u)) S else .no
theorem sCStr : SSl G X W cStr := by
  refine ⟨_, sl_str, fun m σ S H x l u Q R wx q => ?_⟩
  obtain ⟨z, ea, q⟩ := go_ok q
  obtain ⟨k, q⟩ := if_ok q
  rw [vStr_of ea]
  exact ⟨z, rfl, szOk_of k, ok_plain R q trivial⟩
end
end Hf

/-! Sim: built-in functions and methods by values, enumerate, stores at a place. -/
namespace Hf
open PySem PySem.Spec L2
section
variable {G : Fix} {X : Cx} {W : WX}

theorem mvs_append (m : Nat → Addr) (xs ys : List V) : mvs m (xs ++ ys) = mvs m xs ++ mvs m ys := List.map_append
theorem mvs_reverse (m : Nat → Addr) (xs : List V) : mvs m xs.reverse = (mvs m xs).reverse := List.map_reverse
theorem mvs_set (m : Nat → Addr) (xs : List V) (j : Nat) (v : V) : mvs m (xs.set j v) = (mvs m xs).set j (mv m v) := List.map_set

/-! ### len, list, int, isinstance -/
def lenV (x : V) (S : Sto) : Option Nat := match x with
  | .str z => if szOk z.length then some z.length else none
  | .ref a => (seqAt S a).map (·.length)
  | _ => none
def bLen : List V → Sto → Res V := fun xs S => Option.go (l1 xs) fun x => Option.go (lenV x S) fun n => .ok (.int n) S
theorem sLen : SCb G X W (.builtin "len") bLen := by
  refine ⟨_, call_len, fun m σ S H xs Q R w q => ?_⟩
  obtain ⟨x, e1, q⟩ := go_ok q
  obtain ⟨n, e2, q⟩ := go_ok q
  rw [l1_of e1]
  refine ⟨mv m x, n, rfl, ?_, ok_plain R q trivial⟩
  cases x with
  | str z =>
    unfold lenV at e2
    simp only at e2
    by_cases c : szOk z.length = true
    · rw [if_pos c] at e2
      cases e2
      exact ⟨szOk_of c, rfl⟩
    · rw [if_neg c] at e2
      cases e2
  | ref a =>
    unfold lenV at e2
    simp only at e2
    cases e : seqAt S a with
    | none => rw [e] at e2; cases e2
    | some ys =>
      rw [e] at e2
      cases e2
      rcases (R.seq e).1 with k | k
      · exact .inl ⟨_, k.1, by rw [List.length_map]⟩
      · exact .inr ⟨_, k.1, by rw [List.length_map]⟩
  | _ => cases e2
def bList : List V → Sto → Res V := fun xs S => Option.go (l1 xs) fun x => Option.go (vRef x) fun a => Option.go (seqAt S a) fun ys => newL ys S
theorem sListOf : SCb G X W (.type "list") bList := by
  refine ⟨_, call_list_of, fun m σ S H xs Q R w q => ?_⟩
  obtain ⟨x, e1, q⟩ := go_ok q
  obtain ⟨a, e2, q⟩ := go_ok q
  obtain ⟨ys, e3, q⟩ := go_ok q
  rw [l1_of e1, vRef_of e2]
  exact ⟨m a, _, rfl, (R.seq e3).1.elim (fun k => .inl k.1) fun k => .inr k.1, (newL_ok R (R.seq e3).2 q).2⟩
def bTuple : List V → Sto → Res V := fun xs S => Option.go (l1 xs) fun x => Option.go (vRef x) fun a => (Option.go (lstAt S a) fun ys => newT ys S).or (Option.go (tupAt S a) fun _ => .ok x S)
theorem sTupleOf : SCb G X W (.type "tuple") bTuple := by
  refine ⟨_, call_tuple_of, fun m σ S H xs Q R w q => ?_⟩
  obtain ⟨x, e1, q⟩ := go_ok q
  obtain ⟨a, e2, q⟩ := go_ok q
  rw [l1_of e1] at w ⊢
  rw [vRef_of e2] at w q ⊢
  rcases ROk.or q with q | q
  · obtain ⟨ys, e3, q⟩ := go_ok q
    exact ⟨m a, _, rfl, .inl ⟨(R.lstL e3).1, (newT_ok R (R.lstL e3).2 q).2⟩⟩
  · obtain ⟨ys, e3, q⟩ := go_ok q
    exact ⟨m a, _, rfl, .inr ⟨(R.tupT e3).1, ok_plain R q (w _ List.mem_cons_self)⟩⟩
def b2i (b : Bool) : Int := if b then 1 else 0
def bInt : List V → Sto → Res V := fun xs S => Option.go (l1 xs) fun x => (Option.go (vInt x) fun i => .ok (.int i) S).or (Option.go (vBl x) fun b => .ok (.int (b2i b)) S)
theorem sIntOf : SCb G X W (.type "int") bInt := by
  refine ⟨_, call_int1, fun m σ S H xs Q R w q => ?_⟩
  obtain ⟨x, e1, q⟩ := go_ok q
  rw [l1_of e1]
  rcases ROk.or q with q | q
  · obtain ⟨i, e2, q⟩ := go_ok q
    rw [vInt_of e2]
    exact .inl ⟨i, rfl, ok_plain R q trivial⟩
  · obtain ⟨b, e2, q⟩ := go_ok q
    rw [vBl_of e2]
    exact .inr ⟨b, rfl, ok_plain R q trivial⟩
/-- the built-in type of a value -/
def tyN (x : V) (S : Sto) : Option String := match x with
  | .non => some "NoneType" | .bl _ => some "bool" | .int _ => some "int" | .str _ => some "str"
  | .ref a => match S.get a with
    | some (.lst _) | some (.frz _ _) => some "list"
    | some (.tup _) | some (.ktup _ _) => some "tuple"
    | some (.dic _) => some "dict"
    | _ => none
  | _ => none
theorem tyN_ok {K : PySem.W.Frag} {m : Nat → Addr} {S : Sto} {H : Hp} {x : V} {t : String} (R : Rel G K m S H) (h : tyN x S = some t) : TyX K H (mv m x) (.type t) := by
  cases x with
  | non => cases h; exact .base .non
  | bl b => cases h; exact .base (.bl b)
  | int i => cases h; exact .base (.int i)
  | str z => cases h; exact .base (.str z)
  | ref a =>
    unfold tyN at h
    simp only at h
    cases e : S.get a with
    | none => rw [e] at h; cases h
    | some o =>
      rw [e] at h
      have hh := R.holds _ _ e
      cases o with
      | lst xs => cases h; exact .base (.lst hh)
      | frz b xs =>
        cases h
        cases b with
        | true =>
          rcases (show Rd H (m a) _ from hh) with z | ⟨o, z⟩
          · exact .base (.lst z)
          · exact .base (.frz z)
        | false =>
          obtain ⟨o, its, n, h1, h2, _⟩ := hh
          exact .kList h1 h2
      | tup xs => cases h; exact .base (.tup hh)
      | ktup k xs =>
        cases h
        obtain ⟨_, o, its, n, h1, h2, _⟩ := hh
        exact .kTuple h1 h2
      | dic kvs => cases h; exact .base (.dK hh)
      | _ => cases h
  | _ => cases h
def KNOWN : List String := ["NoneType", "bool", "int", "str", "list", "tuple", "dict"]
def kitB (t c : String) : Option Bool := if t ∈ KNOWN ∧ c ∈ KNOWN then some (t == c || (t == "bool" && c == "int")) else none
theorem kitB_ok {K : PySem.W.Frag} {t c : String} {b : Bool} (h : kitB t c = some b) : PySem.W.kitOne K (.type t) (.type c) = some b := by
  unfold kitB at h
  by_cases z : t ∈ KNOWN ∧ c ∈ KNOWN
  · rw [if_pos z] at h
    obtain ⟨h1, h2⟩ := z
    simp only [KNOWN, List.mem_cons, List.not_mem_nil, or_false] at h1 h2
    rcases h1 with rfl | rfl | rfl | rfl | rfl | rfl | rfl <;> rcases h2 with rfl | rfl | rfl | rfl | rfl | rfl | rfl <;> (cases h; rfl)
  · rw [if_neg z] at h
    cases h
def vTy : V → Option String | .ty n => some n | _ => none
theorem vTy_of {v : V} {n : String} (h : vTy v = some n) : v = .ty n := by cases v <;> cases h; rfl
def bIsi : List V → Sto → Res V := fun xs S => Option.go (l2 xs) fun p => Option.go (tyN p.1 S) fun t => Option.go (vTy p.2) fun c => Option.go (kitB t c) fun b => .ok (.bl b) S
theorem sIsi1 : SCb G X W (.builtin "isinstance") bIsi := by
  refine ⟨_, call_isi, fun m σ S H xs Q R w q => ?_⟩
  obtain ⟨⟨x, c⟩, e1, q⟩ := go_ok q
  obtain ⟨t, e2, q⟩ := go_ok q
  obtain ⟨n, e3, q⟩ := go_ok q
  obtain ⟨b, e4, q⟩ := go_ok q
  rw [l2_of e1, show c = .ty n from vTy_of e3]
  exact ⟨mv m x, .ty n, .type t, .type n, b, rfl, .ty n, tyN_ok R e2, kitB_ok e4, ok_plain R q trivial⟩
theorem sTyName {x : Str} {n : String} {pos : Pos} (hg : Gl X x) (hm : X.mg x = none) (hv : bootBuiltins x = some (.type n)) (hn : x ≠ "__name__" := by decide) (hd : (x == ("__debug__" : Str)) = false := by decide) : SE G X W (.Name x pos) (eC (.ty n)) := sC (pe_bltn hg hm hv rfl hn hd) (fun _ => nofun)

/-! ### methods of lists -/
/-- a list changed -/
def setL (S : Sto) (a : Nat) (xs : List V) : Res V := .ok .non (S.set a (.lst xs))
theorem setL_ok {m : Nat → Addr} {S : Sto} {H : Hp} {a : Nat} {xs ys : List V} {Q : VK} {x : Value → Option Addr → Hp → Prop} (R : Rel G X.K m S H) (h : S.get a = some (.lst xs)) (w : wfs S.n ys) (q : ROk G X.K mv wfV m S.n (setL S a ys) Q x) : Q .non (upd H (m a) (.lst (mvs m ys))) :=
  q m _ .refl (Nat.le_refl _) trivial (R.set h rfl (R.holds _ _ h) (fun _ => nofun) rfl w upd_same)
def mAppend : V → List V → Sto → Res V := fun x vs S => Option.go (vRef x) fun a => Option.go (mutAt S a) fun xs => Option.go (l1 vs) fun y => if szOk (xs.length + 1) then setL S a (xs ++ [y]) else .no
theorem sAppend : SMt G X W "list" "list.append" mAppend := by
  refine ⟨_, mt_append, fun m σ S H x vs Q R wx w q => ?_⟩
  obtain ⟨a, e1, q⟩ := go_ok q
  obtain ⟨xs, e2, q⟩ := go_ok q
  obtain ⟨y, e3, q⟩ := go_ok q
  obtain ⟨c, q⟩ := if_ok q
  rw [l1_of e3] at w ⊢
  rw [vRef_of e1]
  have h := mutAt_of e2
  have ww : wfs S.n (xs ++ [y]) := fun z hz => (List.mem_append.mp hz).elim (R.wf _ _ h z) fun k => w z k
  refine ⟨m a, _, _, rfl, rfl, R.holds _ _ h, by rw [List.length_map]; exact szOk_of c, ?_⟩
  have z := setL_ok R h ww q
  rw [mvs_append] at z
  exact z
def mExtend : V → List V → Sto → Res V := fun x vs S => Option.go (vRef x) fun a => Option.go (mutAt S a) fun xs => Option.go (l1 vs) fun y => Option.go (vRef y) fun b => Option.go (mutAt S b) fun ys => if szOk (xs.length + ys.length) then setL S a (xs ++ ys) else .no
theorem sExtend : SMt G X W "list" "list.extend" mExtend := by
  refine ⟨_, mt_extend, fun m σ S H x vs Q R wx w q => ?_⟩
  obtain ⟨a, e1, q⟩ := go_ok q
  obtain ⟨xs, e2, q⟩ := go_ok q
  obtain ⟨y, e3, q⟩ := go_ok q
  obtain ⟨b, e4, q⟩ := go_ok q
  obtain ⟨ys, e5, q⟩ := go_ok q
  obtain ⟨c, q⟩ := if_ok q
  rw [l1_of e3, vRef_of e4, vRef_of e1]
  have h := mutAt_of e2
  have h2 := mutAt_of e5
  have ww : wfs S.n (xs ++ ys) := fun z hz => (List.mem_append.mp hz).elim (R.wf _ _ h z) (R.wf _ _ h2 z)
  refine ⟨m a, m b, _, _, rfl, rfl, R.holds _ _ h, R.holds _ _ h2, by rw [List.length_map, List.length_map]; exact szOk_of c, ?_⟩
  have z := setL_ok R h ww q
  rw [mvs_append] at z
  exact z
def mReverse : V → List V → Sto → Res V := fun x vs S => Option.go (vRef x) fun a => Option.go (mutAt S a) fun xs => if vs.length = 0 then setL S a xs.reverse else .no
theorem sReverse : SMt G X W "list" "list.reverse" mReverse := by
  refine ⟨_, mt_reverse, fun m σ S H x vs Q R wx w q => ?_⟩
  obtain ⟨a, e1, q⟩ := go_ok q
  obtain ⟨xs, e2, q⟩ := go_ok q
  obtain ⟨c, q⟩ := if_ok q
  rw [List.length_eq_zero_iff.mp c, vRef_of e1]
  have h := mutAt_of e2
  refine ⟨m a, _, rfl, rfl, R.holds _ _ h, ?_⟩
  have z := setL_ok R h (fun z hz => R.wf _ _ h z (List.mem_reverse.mp hz)) q
  rw [mvs_reverse] at z
  exact z

/-! ### methods of texts -/
def mStarts : V → List V → Sto → Res V := fun x vs S => Option.go (vStr x) fun a => Option.go (l1 vs) fun y => Option.go (vStr y) fun b => .ok (.bl (Txt.startswith a b)) S
theorem sStarts : SMt G X W "str" "str.startswith" mStarts := by
  refine ⟨_, mt_startswith, fun m σ S H x vs Q R wx w q => ?_⟩
  obtain ⟨a, e1, q⟩ := go_ok q
  obtain ⟨y, e2, q⟩ := go_ok q
  obtain ⟨b, e3, q⟩ := go_ok q
  rw [vStr_of e1, l1_of e2, vStr_of e3]
  exact ⟨a, b, rfl, rfl, ok_plain R q trivial⟩
def mStarts3 : V → List V → Sto → Res V := fun x vs S => Option.go (vStr x) fun a => Option.go (l2 vs) fun p => Option.go (vStr p.1) fun b => Option.go (vInt p.2) fun i => .ok (.bl (Txt.startswith3 a b i)) S
theorem sStarts3 : SMt G X W "str" "str.startswith" mStarts3 := by
  refine ⟨_, mt_startswith3, fun m σ S H x vs Q R wx w q => ?_⟩
  obtain ⟨a, e1, q⟩ := go_ok q
  obtain ⟨⟨y, z⟩, e2, q⟩ := go_ok q
  obtain ⟨b, e3, q⟩ := go_ok q
  obtain ⟨i, e4, q⟩ := go_ok q
  rw [vStr_of e1, l2_of e2, show y = _ from vStr_of e3, show z = _ from vInt_of e4]
  exact ⟨a, b, i, rfl, rfl, ok_plain R q trivial⟩
def mJoin : V → List V → Sto → Res V := fun x vs S => Option.go (vStr x) fun a => Option.go (l1 vs) fun y => Option.go (vRef y) fun p => Option.go (seqAt S p) fun xs => Option.go (mapO vStr xs) fun ys =>
  if (ys.map (·.length)).sum + ys.length * a.length ≤ 16777216 then .ok (.str (Txt.join a ys)) S else .no
theorem mapO_str : ∀ {xs : List V} {ys : List Str}, mapO vStr xs = some ys → xs = ys.map V.str
  | [], ys, h => by cases h; rfl
  | x :: xs, ys, h => by
    unfold mapO at h
    cases e : vStr x with
    | none => rw [e] at h; cases h
    | some y =>
      rw [e] at h
      simp only at h
      cases e2 : mapO vStr xs with
      | none => rw [e2] at h; cases h
      | some zs =>
        rw [e2] at h
        cases h
        rw [vStr_of e, mapO_str e2]
        rfl
theorem mvs_str {m : Nat → Addr} (ys : List Str) : mvs m (ys.map V.str) = ys.map V.str := by
  show (ys.map V.str).map (mv m) = ys.map V.str
  rw [List.map_map]
  rfl
theorem sJoin : SMt G X W "str" "str.join" mJoin := by
  refine ⟨_, mt_join, fun m σ S H x vs Q R wx w q => ?_⟩
  obtain ⟨a, e1, q⟩ := go_ok q
  obtain ⟨y, e2, q⟩ := go_ok q
  obtain ⟨p, e3, q⟩ := go_ok q
  obtain ⟨xs, e4, q⟩ := go_ok q
  obtain ⟨ys, e5, q⟩ := go_ok q
  obtain ⟨c, q⟩ := if_ok q
  rw [vStr_of e1, l1_of e2, vRef_of e3]
  have z := (R.seq e4).1
  rw [mapO_str e5, mvs_str] at z
  exact ⟨a, m p, ys, rfl, rfl, z.elim (fun k => .inl k.1) (fun k => .inr k.1), c, ok_plain R q trivial⟩

/-! ### o[i] = v -/
def SSet (G : Fix) (X : Cx) (W : WX) (g : V → V → V → Sto → Res Unit) : Prop :=
  ∃ r, PSet X r ∧ ∀ m σ S H o i v (Q : Hp → Prop), Rel G X.K m S H → wfV S.n o → wfV S.n i → wfV S.n v → ROk G X.K (fun _ u => u) (fun _ _ => True) m S.n (g o i v S) (fun _ H' => Q H') (fun c d H' => W c d σ H') → r (mv m o) (mv m i) (mv m v) H Q
def tgSub (o i : ME) (g : V → V → V → Sto → Res Unit) : V → St → Sto → Res St := fun v σ S => noEx ((o σ S).bind fun ov S1 => (i σ S1).bind fun iv S2 => (g ov iv v S2).bind fun _ S3 => .ok σ S3)
theorem sTgSub {o i : Expr} {go gi : ME} {g : V → V → V → Sto → Res Unit} {pos : Pos} (ho : SE G X W o go) (hi : SE G X W i gi) (hg : SSet G X W g) 
    (ha : ∀ v, assign (.Subscript o i pos) X.env v = (do
      let ov ← holding [v] (eval o X.env)
      let iv ← holding [v, ov] (eval i X.env)
      standAt pos
      holding [v, ov, iv] (setItem ov iv v)
      release [v, ov, iv] []) := by intro _; rfl) : SG G X W (.Subscript o i pos) (tgSub go gi g) := by
  obtain ⟨to, po, ko⟩ := ho
  obtain ⟨ti, pi, ki⟩ := hi
  obtain ⟨r, pr, kr⟩ := hg
  refine ⟨_, pg_sub po pi pr ha, fun m σ S H v Q R w wv q => ?_⟩
  have q := noEx_ok (x' := fun c d H' => W c d (mst m σ) H') q
  refine ko m σ S H _ R w (ROk.bind q fun ov S1 m1 H1 e1 l1 w1 R1 q1 => ?_)
  rw [← mst_ext e1 w]
  refine ki m1 σ S1 H1 _ R1 (w.mono l1) (ROk.bind (sbw e1 w q1) fun iv S2 m2 H2 e2 l2 w2 R2 q2 => ?_)
  rw [← mv_ext e2 w1, ← mst_ext e2 (w.mono l1), ← mv_ext (e1.trans e2 l1) wv]
  refine kr m2 (mst m1 σ) S2 H2 ov iv v _ R2 (w1.mono l2) w2 (wv.mono (Nat.le_trans l1 l2)) (ROk.bind q2 fun u S3 m3 H3 e3 l3 w3 R3 q3 => ?_)
  have z := q3 m3 H3 .refl (Nat.le_refl _) (((w.mono l1).mono l2).mono l3) R3
  rw [mst_ext e3 ((w.mono l1).mono l2)] at z
  exact z
def uOk (r : Res V) : Res Unit := match r with | .ok _ S => .ok () S | .ex c d S => .ex c d S | .no => .no
def stLst : V → V → V → Sto → Res Unit := fun o i v S => Option.go (vRef o) fun a => Option.go (vInt i) fun k => Option.go (mutAt S a) fun xs => Option.go (ixN xs.length k) fun j => .ok () (S.set a (.lst (xs.set j v)))
theorem sStLst : SSet G X W stLst := by
  refine ⟨_, set_list, fun m σ S H o i v Q R wo wi wv q => ?_⟩
  obtain ⟨a, e1, q⟩ := go_ok q
  obtain ⟨k, e2, q⟩ := go_ok q
  obtain ⟨xs, e3, q⟩ := go_ok q
  obtain ⟨j, e4, q⟩ := go_ok q
  rw [vRef_of e1, vInt_of e2]
  have h := mutAt_of e3
  have ww : wfs S.n (xs.set j v) := fun z hz => (List.mem_or_eq_of_mem_set hz).elim (R.wf _ _ h z) fun e => e ▸ wv
  refine ⟨m a, _, k, j, rfl, rfl, R.holds _ _ h, by rw [List.length_map]; exact e4, ?_⟩
  have z := q m _ .refl (Nat.le_refl _) trivial (R.set h rfl (R.holds _ _ h) (fun _ => nofun) rfl ww (u := .lst (mvs m (xs.set j v))) upd_same)
  rw [mvs_set] at z
  exact z

/-! ### enumerate -/
theorem wk_enm {K : PySem.W.Frag} {m : Nat → Addr} {n a : Nat} (ha : a < n) : WkOk G K (Ite K (m a)) (.enm a) m n := by
  intro i m1 S1 H1 e1 l1 R1
  have ea : m1 a = m a := e1 a ha
  refine ⟨fun z => ?_, fun y S2 z => ?_⟩
  · obtain ⟨xs, ex, hl⟩ := nextOf_stop z
    obtain ⟨q, w⟩ := R1.lstL ex
    rw [ea] at q
    exact ⟨_, q, by rw [List.length_map]; exact hl⟩
  · obtain ⟨xs, x, ex, ei, e2⟩ := nextOf_go z
    cases e2
    obtain ⟨q, w⟩ := R1.lstL ex
    rw [ea] at q
    refine ⟨⟨_, _, q, mv_get ei⟩, fun v H2 hy => ?_⟩
    obtain ⟨T, x', rfl, hT, rfl, hv⟩ := hy
    have z := hv _ q
    rw [mv_get ei] at z
    cases z
    have wx : wfV S1.n x := w x (List.mem_of_getElem? ei)
    have wo : (Ob.tup [V.int i, x]).wf S1.n := fun z hz => by
      rcases List.mem_cons.mp hz with rfl | hz
      · trivial
      · rcases List.mem_cons.mp hz with rfl | hz
        · exact wx
        · cases hz
    obtain ⟨ee, R2⟩ := R1.push (u := .tup [V.int i, mv m1 x]) hT wo fun m' hm e => by
      show upd H1 T (.tup [V.int i, mv m1 x]) (m' S1.n) = some (.tup [V.int i, mv m' x])
      rw [hm, mv_ext e wx]
      exact upd_same
    exact ⟨_, ee, Nat.le_succ _, Nat.lt_succ_self _, R2, congrArg V.ref (if_pos rfl).symm⟩
def wEnum (gs : MA) : St → Sto → Res Wk := fun σ S => (gs σ S).bind fun xs S1 => Option.go (l1 xs) fun x => Option.go (vRef x) fun a => Option.go (lstAt S1 a) fun _ => .ok (.enm a) S1
theorem sWEnum {e : Expr} {gs : MA} {p pos tpos : Pos} {elts : List Expr} {kk : Nat} (hg : Gl X "enumerate") (hm : X.mg "enumerate" = none) (h : SA G X W [e] gs) (hs : starEach [e] X.env = [(false, eval e X.env)] := by rfl) : SI G X W (.Tuple elts kk tpos) (.Call (.Name "enumerate" p) [e] [] pos) (wEnum gs) := by
  obtain ⟨t, p, k⟩ := h
  refine ⟨_, pi_enum hg hm p hs, fun m σ S H R' R w q => ?_⟩
  refine k m σ S H _ R w (WOk.bind q fun xs S1 m1 H1 e1 l1 w1 R1 q1 => ?_)
  obtain ⟨x, ea, q2⟩ := wgo q1
  obtain ⟨a, eb, q3⟩ := wgo q2
  obtain ⟨ys, ex, q4⟩ := wgo q3
  cases l1_of ea
  cases vRef_of eb
  exact ⟨m1 a, _, rfl, (R1.lstL ex).1, q4 m1 H1 _ .refl (Nat.le_refl _) R1 (wk_enm (w1 _ List.mem_cons_self))⟩
end
end Hf

/-! Sim: list comprehensions; calls with keywords alone. -/
namespace Hf
open PySem PySem.Spec L2
section
variable {G : Fix} {X : Cx} {W : WX}

/-! ### the judgements with one reading -/
def rE (G : Fix) (K : PySem.W.Frag) (W : WX) (g : ME) : TE := fun σ' H Q => ∃ m σ S, σ' = mst m σ ∧ Rel G K m S H ∧ wfσ S.n σ ∧ ROk G K mv wfV m S.n (g σ S) Q (fun c d H' => W c d σ' H')
theorem SE.canon {e : Expr} {g : ME} (h : SE G X W e g) : PE X e (rE G X.K W g) := by
  obtain ⟨t, p, k⟩ := h
  refine ⟨fun pins s σ' H Q I q => ?_⟩
  obtain ⟨m, σ, S, rfl, R, w, q⟩ := q
  exact p.run pins s _ H Q I (k m σ S H Q R w q)
/-- a comprehension's tests -/
def SPs (G : Fix) (X : Cx) (W : WX) (ifs : List Expr) (g : MT) : Prop := ∃ t, PTs X ifs t ∧ ∀ m σ S H Q, Rel G X.K m S H → wfσ S.n σ → ROk G X.K (fun _ b => b) (fun _ _ => True) m S.n (g σ S) Q (fun c d H' => W c d (mst m σ) H') → t (mst m σ) H Q
def rP (G : Fix) (K : PySem.W.Frag) (W : WX) (g : MT) : TT := fun σ' H Q => ∃ m σ S, σ' = mst m σ ∧ Rel G K m S H ∧ wfσ S.n σ ∧ ROk G K (fun _ b => b) (fun _ _ => True) m S.n (g σ S) Q (fun c d H' => W c d σ' H')
theorem SPs.canon {ifs : List Expr} {g : MT} (h : SPs G X W ifs g) : PTs X ifs (rP G X.K W g) := by
  obtain ⟨t, p, k⟩ := h
  refine ⟨fun pins s σ' H Q I q => ?_⟩
  obtain ⟨m, σ, S, rfl, R, w, q⟩ := q
  exact p.run pins s _ H Q I (k m σ S H Q R w q)
def tYesG : MT := fun _ S => .ok true S
theorem sPsNil : SPs G X W [] tYesG := ⟨_, pts_nil, fun m σ S H Q R w q => q m H .refl (Nat.le_refl _) trivial R⟩
theorem sPsOne {c : Expr} {g : MT} (h : SB G X W c g) : SPs G X W [c] g := by
  obtain ⟨t, p, k⟩ := h
  exact ⟨_, pts_one p, k⟩
def rG (G : Fix) (K : PySem.W.Frag) (W : WX) (t : V → St → Sto → Res St) : TG := fun v' σ' H Q => ∃ m σ S v, v' = mv m v ∧ σ' = mst m σ ∧ Rel G K m S H ∧ wfσ S.n σ ∧ wfV S.n v ∧ ROk G K mst wfσ m S.n (t v σ S) Q (fun c d H' => W c d σ' H')
theorem SG.canon {e : Expr} {g : V → St → Sto → Res St} (h : SG G X W e g) : PG X e (rG G X.K W g) := by
  obtain ⟨t, p, k⟩ := h
  refine ⟨fun pins s σ' H v' u Q I r q => ?_⟩
  obtain ⟨m, σ, S, v, rfl, rfl, R, w, wv, q⟩ := q
  exact p.run pins s _ H _ u Q I r (k m σ S H v Q R w wv q)
abbrev W0 : WX := fun _ _ _ _ => False

/-! ### list comprehensions -/
theorem wipe_mst (m : Nat → Addr) (σ : St) : ∀ vs : List Nat, wipe (mst m σ) vs = mst m (wipe σ vs)
  | [] => rfl
  | v :: vs => by
    show (wipe (mst m σ) vs).set v none = List.map _ ((wipe σ vs).set v none)
    rw [wipe_mst m σ vs, List.map_set]
    rfl
theorem wipe_set_mem {σ : St} {v : Nat} {o : Option V} : ∀ {vs : List Nat}, v ∈ vs → wipe (σ.set v o) vs = wipe σ vs
  | a :: vs, h => by
    show (wipe (σ.set v o) vs).set a none = (wipe σ vs).set a none
    by_cases hm : v ∈ vs
    · rw [wipe_set_mem hm]
    · have e : v = a := by
        rcases List.mem_cons.mp h with h | h
        · exact h
        · exact (hm h).elim
      subst e
      rw [wipe_set_not hm, List.set_set]
where
  wipe_set_not {σ : St} {v : Nat} {o : Option V} : ∀ {vs : List Nat}, v ∉ vs → wipe (σ.set v o) vs = (wipe σ vs).set v o
    | [], _ => rfl
    | a :: vs, h => by
      show (wipe (σ.set v o) vs).set a none = ((wipe σ vs).set a none).set v o
      rw [wipe_set_not (fun z => h (List.mem_cons_of_mem _ z)), List.set_comm]
      exact fun e => h (by rw [e]; exact List.mem_cons_self)
theorem wipe_wipe (σ : St) : ∀ vs ws : List Nat, (∀ v ∈ ws, v ∈ vs) → wipe (wipe σ ws) vs = wipe σ vs
  | vs, [], _ => rfl
  | vs, w :: ws, h => by
    show wipe ((wipe σ ws).set w none) vs = _
    rw [wipe_set_mem (h w List.mem_cons_self), wipe_wipe σ vs ws fun v hv => h v (List.mem_cons_of_mem _ hv)]
theorem wfσ.wipe {n : Nat} {σ : St} (h : wfσ n σ) : ∀ vs : List Nat, wfσ n (wipe σ vs)
  | [] => h
  | v :: vs => fun x hx => by
    rcases List.mem_or_eq_of_mem_set (show some x ∈ (L2.wipe σ vs).set v none from hx) with q | q
    · exact wfσ.wipe h vs x q
    · cases q
/-- a target stores at some slots alone -/
def Kp (vs : List Nat) (t : V → St → Sto → Res St) : Prop := ∀ v σ S σ2 S2, t v σ S = .ok σ2 S2 → wipe σ2 vs = wipe σ vs
def Kps (vs : List Nat) (t : List V → St → Sto → Res St) : Prop := ∀ v σ S σ2 S2, t v σ S = .ok σ2 S2 → wipe σ2 vs = wipe σ vs
theorem kpName {vs : List Nat} {i : Nat} (h : i ∈ vs) : Kp vs (tgName i) := fun v σ S σ2 S2 e => by
  cases e
  exact wipe_set_mem h
theorem kpNil {vs : List Nat} : Kps vs tgNil := fun v σ S σ2 S2 e => by
  cases v with
  | nil => cases e; rfl
  | cons a b => cases e
theorem kpCons {vs : List Nat} {t : V → St → Sto → Res St} {r : List V → St → Sto → Res St} (h : Kp vs t) (h2 : Kps vs r) : Kps vs (fun vs σ S => noEx (tgCons t r vs σ S)) := fun v σ S σ2 S2 e => by
  cases v with
  | nil => cases e
  | cons a b =>
    simp only [tgCons] at e
    cases et : t a σ S with
    | ok σ1 S1 =>
      rw [et] at e
      simp only [Res.bind] at e
      cases er : r b σ1 S1 with
      | ok σ3 S3 =>
        rw [er] at e
        cases e
        rw [h2 _ _ _ _ _ er, h _ _ _ _ _ et]
      | ex c d S => rw [er] at e; cases e
      | no => rw [er] at e; cases e
    | ex c d S => rw [et] at e; cases e
    | no => rw [et] at e; cases e
theorem kpTup {vs : List Nat} {n : Nat} {r : List V → St → Sto → Res St} (h : Kps vs r) : Kp vs (tgTup n r) := fun v σ S σ2 S2 e => by
  cases v with
  | ref a =>
    unfold tgTup at e
    simp only at e
    cases ea : tupAt S a with
    | none => rw [ea] at e; cases e
    | some xs =>
      rw [ea] at e
      simp only at e
      by_cases z : xs.length = n
      · rw [if_pos z] at e
        exact h _ _ _ _ _ e
      · rw [if_neg z] at e
        cases e
  | _ => cases e
theorem kpLst {vs : List Nat} {n : Nat} {r : List V → St → Sto → Res St} (h : Kps vs r) : Kp vs (tgLst n r) := fun v σ S σ2 S2 e => by
  cases v with
  | ref a =>
    unfold tgLst at e
    simp only at e
    cases ea : lstAt S a with
    | none => rw [ea] at e; cases e
    | some xs =>
      rw [ea] at e
      simp only at e
      by_cases z : xs.length = n
      · rw [if_pos z] at e
        exact h _ _ _ _ _ e
      · rw [if_neg z] at e
        cases e
  | _ => cases e
theorem kpUn {vs : List Nat} {n : Nat} {r : List V → St → Sto → Res St} (h : Kps vs r) : Kp vs (tgUn n r) := fun v σ S σ2 S2 e => by
  cases v with
  | ref a =>
    unfold tgUn at e
    simp only at e
    cases ea : tupAt S a with
    | some xs => rw [ea] at e; exact kpTup h _ _ _ _ _ e
    | none => rw [ea] at e; exact kpLst h _ _ _ _ _ e
  | _ => cases e
def lcL (w : Wk) (t : V → St → Sto → Res St) (tt : MT) (ge : ME) (D : Nat) : Nat → Nat → St → Sto → Res Unit
  | 0, _, _, _ => .no
  | n + 1, i, σ, S => match wkNext w i S with
    | none => .no
    | some none => .ok () S
    | some (some (x, S1)) => (noEx (t x σ S1)).bind fun σ2 S2 => (noEx (tt σ2 S2)).bind fun b S3 => match b with
      | false => lcL w t tt ge D n (i + 1) σ S3
      | true => (noEx (ge σ2 S3)).bind fun y S4 => Option.go (mutAt S4 D) fun acc => if szOk (acc.length + 1) then lcL w t tt ge D n (i + 1) σ (S4.set D (.lst (acc ++ [y]))) else .no
def gLc (n : Nat) (gi : St → Sto → Res Wk) (t : V → St → Sto → Res St) (tt : MT) (ge : ME) (vs : List Nat) : ME := fun σ S => (gi σ S).bind fun w S1 => (lcL w t tt ge S1.n n 0 (wipe σ vs) (S1.push (.lst []))).bind fun _ S2 => .ok (.ref S1.n) S2
theorem ROk.wb {α β : Type} {K : PySem.W.Frag} {f : (Nat → Addr) → α → β} {wf : Nat → α → Prop} {m : Nat → Addr} {n : Nat} {r : Res Wk} {k : Wk → Sto → Res α} {q : β → Hp → Prop} {x : Value → Option Addr → Hp → Prop} {R' : It → Hp → Prop} (h : ROk G K f wf m n (r.bind k) q x)
    (hk : ∀ w S1 m1 H1 J, Ext m m1 n → n ≤ S1.n → Rel G K m1 S1 H1 → WkOk G K J w m1 S1.n → ROk G K f wf m1 S1.n (k w S1) q x → R' J H1) : WOk G K m n r R' x := by
  cases r with
  | ok a S => exact fun m' H' J e' l' R wk => hk a S m' H' J e' l' R wk (ROk.weak (show ROk G K f wf m n (k a S) q x from h) e' l')
  | ex c d S => exact h
  | no => exact h
theorem lc_run {gi : St → Sto → Res Wk} {t : V → St → Sto → Res St} {tt : MT} {ge : ME} {vs : List Nat} {wi : TI} (n : Nat)
    (ki : ∀ m σ S H (R' : It → Hp → Prop), Rel G X.K m S H → wfσ S.n σ → WOk G X.K m S.n (gi σ S) R' (fun c d H' => W c d (mst m σ) H') → wi (mst m σ) H R') (kp : Kp vs t) :
    ∀ m σ S H Q, Rel G X.K m S H → wfσ S.n σ → ROk G X.K mv wfV m S.n (gLc n gi t tt ge vs σ S) Q (fun c d H' => W c d (mst m σ) H') → tLc wi (rG G X.K W0 t) (rP G X.K W0 tt) (rE G X.K W0 ge) vs (mst m σ) H Q := by
  intro m σ S H Q R w q
  refine ki m σ S H _ R w (ROk.wb q fun wk S1 m1 H1 J e1 l1 R1 hJ q1 => ?_)
  intro D hD
  obtain ⟨e2, R2⟩ := R1.push (o := .lst []) (u := .lst []) hD (fun _ h => nomatch h) fun m' hm _ => by
    show upd H1 D (.lst []) (m' S1.n) = some (.lst [])
    rw [hm]
    exact upd_same
  have hmD : (fun j => if j = S1.n then D else m1 j) S1.n = D := if_pos rfl
  generalize hm2 : (fun j => if j = S1.n then D else m1 j) = m2 at e2 R2 hmD
  have ws : wfσ S1.n (wipe σ vs) := (w.mono l1).wipe vs
  have es : ∀ m3, Ext m1 m3 S1.n → mst m3 (wipe σ vs) = wipe (mst m σ) vs := fun m3 e3 => by
    rw [mst_ext e3 ws, ← wipe_mst, mst_ext e1 w]
  refine ⟨fun i j H' => ∃ m3 S3, Ext m1 m3 S1.n ∧ S1.n < S3.n ∧ m3 S1.n = D ∧ Rel G X.K m3 S3 H' ∧ ROk G X.K (fun _ u => u) (fun _ _ => True) m3 S3.n (lcL wk t tt ge S1.n j i (wipe σ vs) S3) (fun _ H'' => Q (.ref D) H'') (fun c d H' => W c d (mst m σ) H'),
    ⟨n, m2, _, e2, Nat.lt_succ_self _, hmD, R2, ?_⟩, ?_⟩
  · refine ROk.bind (ROk.weak q1 e2 (Nat.le_succ _)) fun u S3 m3 H3 e3 l3 _ R3 q3 => ?_
    have z := q3 m3 H3 .refl (Nat.le_refl _) (Nat.lt_of_lt_of_le (Nat.lt_succ_self _) l3) R3
    rw [show mv m3 (.ref S1.n) = .ref D from congrArg V.ref ((e3 S1.n (Nat.lt_succ_self _)).trans hmD)] at z
    exact z
  · rintro i j H' ⟨m3, S3, e3, l3, d3, R3, q3⟩
    cases j with
    | zero => exact q3.elim
    | succ j =>
      obtain ⟨hstop, hgo⟩ := hJ i m3 S3 H' e3 (Nat.le_of_lt l3) R3
      unfold lcL at q3
      cases en : wkNext wk i S3 with
      | none => rw [en] at q3; exact q3.elim
      | some o =>
        rw [en] at q3
        cases o with
        | none => exact .inl ⟨hstop en, q3 m3 H' .refl (Nat.le_refl _) trivial R3⟩
        | some p =>
          obtain ⟨x, S4⟩ := p
          obtain ⟨g1, g2⟩ := hgo x S4 en
          refine .inr ⟨g1, fun H' => ∃ m3 S3, Ext m1 m3 S1.n ∧ S1.n < S3.n ∧ m3 S1.n = D ∧ Rel G X.K m3 S3 H' ∧ ROk G X.K (fun _ u => u) (fun _ _ => True) m3 S3.n (lcL wk t tt ge S1.n j (i + 1) (wipe σ vs) S3) (fun _ H'' => Q (.ref D) H'') (fun c d H' => W c d (mst m σ) H'),
            fun H' z => ⟨j, Nat.lt_succ_self _, z⟩, fun v H2 hy => ?_⟩
          obtain ⟨m4, e4, l4, w4, R4, rfl⟩ := g2 v H2 hy
          have E4 : Ext m1 m4 S1.n := e3.trans e4 (Nat.le_of_lt l3)
          have L4 : S1.n ≤ S4.n := Nat.le_trans (Nat.le_of_lt l3) l4
          refine ⟨m4, wipe σ vs, S4, x, rfl, (es m4 E4).symm, R4, ws.mono L4, w4, ?_⟩
          have q4 := ROk.weak q3 e4 l4
          dsimp only at q4
          refine ROk.imp (x := fun _ _ _ => False) (q := fun σ' H' => wipe σ' vs = wipe (mst m σ) vs ∧ rP G X.K W0 tt σ' H' fun b H3 => if b = true then rE G X.K W0 ge σ' H3 fun y H4 => ∃ acc, H4 D = some (.lst acc) ∧ acc.length < sizeLine ∧ _ else _) (r := t x (wipe σ vs) S4) ?_ (fun _ _ z => z) fun _ _ _ z => z
          cases et : t x (wipe σ vs) S4 with
          | no => rw [et] at q4; exact q4.elim
          | ex c d S5 => rw [et] at q4; exact q4.elim
          | ok σ2 S5 =>
            rw [et] at q4
            intro m5 H5 e5 l5 w5 R5
            have q5 := ROk.weak (show ROk G X.K (fun _ u => u) (fun _ _ => True) m4 S4.n ((noEx (tt σ2 S5)).bind _) _ _ from q4) e5 l5
            have E5 : Ext m1 m5 S1.n := E4.trans e5 L4
            have L5 : S1.n ≤ S5.n := Nat.le_trans L4 l5
            refine ⟨?_, m5, σ2, S5, rfl, R5, w5, ?_⟩
            · rw [wipe_mst, kp _ _ _ _ _ et, wipe_wipe _ _ _ (fun _ h => h)]
              exact es m5 E5
            · have D5 : m5 S1.n = D := by
                rw [e5 S1.n (Nat.lt_of_lt_of_le l3 l4), e4 S1.n l3]
                exact d3
              have LT5 : S1.n < S5.n := Nat.lt_of_lt_of_le (Nat.lt_of_lt_of_le l3 l4) l5
              refine noEx_ok (x := fun c d H' => W c d (mst m σ) H') (ROk.bind q5 fun b S6 m6 H6 e6 l6 _ R6 q6 => ?_)
              have E6 : Ext m1 m6 S1.n := E5.trans e6 L5
              have D6 : m6 S1.n = D := (e6 S1.n LT5).trans D5
              have LT6 : S1.n < S6.n := Nat.lt_of_lt_of_le LT5 l6
              cases b with
              | false =>
                rw [if_neg Bool.false_ne_true]
                exact ⟨m6, S6, E6, LT6, D6, R6, q6⟩
              | true =>
                rw [if_pos rfl]
                refine ⟨m6, σ2, S6, (mst_ext e6 w5).symm, R6, w5.mono l6, ?_⟩
                refine noEx_ok (x := fun c d H' => W c d (mst m σ) H') (ROk.bind q6 fun y S7 m7 H7 e7 l7 w7 R7 q7 => ?_)
                have E7 : Ext m1 m7 S1.n := E6.trans e7 (Nat.le_of_lt LT6)
                have D7 : m7 S1.n = D := (e7 S1.n LT6).trans D6
                have LT7 : S1.n < S7.n := Nat.lt_of_lt_of_le LT6 l7
                obtain ⟨acc, ea, q8⟩ := go_ok q7
                obtain ⟨cz, q9⟩ := if_ok q8
                have ha := mutAt_of ea
                have hH := R7.holds _ _ ha
                have ww : wfs S7.n (acc ++ [y]) := fun z hz => (List.mem_append.mp hz).elim (R7.wf _ _ ha z) fun k => by
                  rcases List.mem_cons.mp k with rfl | k
                  · exact w7
                  · cases k
                refine ⟨mvs m7 acc, by rw [← D7]; exact hH, by rw [List.length_map]; exact szOk_of cz, m7, S7.set S1.n (.lst (acc ++ [y])), E7, LT7, D7, ?_, q9⟩
                have R8 := R7.set (o' := .lst (acc ++ [y])) ha rfl hH (fun _ => nofun) rfl ww (u := .lst (mvs m7 (acc ++ [y]))) upd_same
                rw [mvs_append, D7] at R8
                exact R8
theorem sLc (n : Nat) {elt tg iter : Expr} {ifs : List Expr} {scope : Scope} {own : List (Str × Nat)} {pos : Pos} {gi : St → Sto → Res Wk} {t : V → St → Sto → Res St} {tt : MT} {ge : ME} (hc : X.calm = true) (hN : X.N.Nodup) (hi : SI G X W tg iter gi) (ok : BlkOk X.N X.env.scope scope own)
    (ht : ∀ (s : Shared) (H : Hp) (C : Addr) (cl : List (Str × Addr)) (fp : List Addr), SG G (X.blk s H scope (compEnvC scope cl C X.env) fp) W0 tg t) (htt : ∀ (s : Shared) (H : Hp) (C : Addr) (cl : List (Str × Addr)) (fp : List Addr), SPs G (X.blk s H scope (compEnvC scope cl C X.env) fp) W0 ifs tt)
    (he : ∀ (s : Shared) (H : Hp) (C : Addr) (cl : List (Str × Addr)) (fp : List Addr), SE G (X.blk s H scope (compEnvC scope cl C X.env) fp) W0 elt ge) (kp : Kp (own.map (·.2)) t) (hs : ∀ x, foldedSetIterable iter X.env x = pure x := by intro _; rfl) :
    SE G X W (.ListComp elt [⟨tg, iter, ifs, 0⟩] scope pos) (gLc n gi t tt ge (own.map (·.2))) := by
  obtain ⟨wi, pi, ki⟩ := hi
  exact ⟨_, pe_lc (g := rG G X.K W0 t) (tt := rP G X.K W0 tt) (te := rE G X.K W0 ge) hc hN pi ok (fun s H C cl fp => (ht s H C cl fp).canon) (fun s H C cl fp => (htt s H C cl fp).canon) (fun s H C cl fp => (he s H C cl fp).canon) hs, lc_run n ki kp⟩
/-- y = [..] on one line -/
theorem sSetLc (n : Nat) {i : Nat} {y : Str} {py : Pos} {elt tg iter : Expr} {ifs : List Expr} {scope : Scope} {own : List (Str × Nat)} {pos spos : Pos} {gi : St → Sto → Res Wk} {t : V → St → Sto → Res St} {tt : MT} {ge : ME} (hc : X.calm = true) (hN : X.N.Nodup) (hy : X.N[i]? = some y) (hyl : X.env.scope.names.lookup y = some .local)
    (hsw : swapsWith (.ListComp elt [⟨tg, iter, ifs, 0⟩] scope pos) (some (.Name y py)) spos.line X.env = pure true) (hi : SI G X W tg iter gi) (ok : BlkOk X.N X.env.scope scope own)
    (ht : ∀ (s : Shared) (H : Hp) (C : Addr) (cl : List (Str × Addr)) (fp : List Addr), SG G (X.blk s H scope (compEnvC scope cl C X.env) fp) W0 tg t) (htt : ∀ (s : Shared) (H : Hp) (C : Addr) (cl : List (Str × Addr)) (fp : List Addr), SPs G (X.blk s H scope (compEnvC scope cl C X.env) fp) W0 ifs tt)
    (he : ∀ (s : Shared) (H : Hp) (C : Addr) (cl : List (Str × Addr)) (fp : List Addr), SE G (X.blk s H scope (compEnvC scope cl C X.env) fp) W0 elt ge) (kp : Kp (own.map (·.2)) t) (hs : ∀ x, foldedSetIterable iter X.env x = pure x := by intro _; rfl) :
    SS G X W (.Assign [.Name y py] (.ListComp elt [⟨tg, iter, ifs, 0⟩] scope pos) spos) (mSet i (gLc n gi t tt ge (own.map (·.2)))) := by
  obtain ⟨wi, pi, ki⟩ := hi
  refine ⟨_, ps_setLc (g := rG G X.K W0 t) (tt := rP G X.K W0 tt) (te := rE G X.K W0 ge) hc hN hy hyl hsw pi ok (fun s H C cl fp => (ht s H C cl fp).canon) (fun s H C cl fp => (htt s H C cl fp).canon) (fun s H C cl fp => (he s H C cl fp).canon) hs, fun m σ S H D R w q => ?_⟩
  refine lc_run n ki kp m σ S H _ R w (SOk.sb w q fun x S1 m1 H1 e1 l1 w1 R1 q1 => ?_)
  have z := q1 m1 H1 .refl (Nat.le_refl _) ((w.mono l1).set w1) R1
  rw [mst_set, mst_ext e1 w] at z
  exact z
end
end Hf

/-! Sim: calls with keywords; code that is never come to. -/
namespace Hf
open PySem PySem.Spec L2
/-- positional and keyword arguments in the parameters' order: true: of the keywords -/
def kPerm {α : Type} (na nb : Nat) (sel : List (Bool × Nat)) (us ws : List α) : List α := if us.length = na ∧ ws.length = nb then sel.filterMap (fun p => if p.1 then ws[p.2]? else us[p.2]?) else []
theorem kPerm_rel {na nb : Nat} {sel : List (Bool × Nat)} {vs zs : List V} {us ws : List Value} (r : Vals vs us) (r2 : Vals zs ws) : Vals (kPerm na nb sel vs zs) (kPerm na nb sel us ws) := by
  unfold kPerm
  rw [r.length, r2.length]
  by_cases c : us.length = na ∧ ws.length = nb
  · rw [if_pos c, if_pos c]
    have one : ∀ (b : Bool) (i : Nat), (∃ x u, (if b then zs[i]? else vs[i]?) = some x ∧ (if b then ws[i]? else us[i]?) = some u ∧ RelV x u) ∨ ((if b then zs[i]? else vs[i]?) = none ∧ (if b then ws[i]? else us[i]?) = none) := fun b i => by
      cases b with
      | true =>
        cases e : zs[i]? with
        | some x => obtain ⟨u, h1, h2⟩ := r2.get e; exact .inl ⟨x, u, by simpa using e, by simpa using h1, h2⟩
        | none => exact .inr ⟨by simpa using e, by simpa using r2.none_of e⟩
      | false =>
        cases e : vs[i]? with
        | some x => obtain ⟨u, h1, h2⟩ := r.get e; exact .inl ⟨x, u, by simpa using e, by simpa using h1, h2⟩
        | none => exact .inr ⟨by simpa using e, by simpa using r.none_of e⟩
    clear c
    induction sel with
    | nil => exact .nil
    | cons p sel ih =>
      obtain ⟨b, i⟩ := p
      rcases one b i with ⟨x, u, h1, h2, h3⟩ | ⟨h1, h2⟩
      · rw [List.filterMap_cons, List.filterMap_cons]
        simp only [h1, h2]
        exact .cons h3 ih
      · rw [List.filterMap_cons, List.filterMap_cons]
        simp only [h1, h2]
        exact ih
  · rw [if_neg c, if_neg c]
    exact .nil
theorem kbinds {K : PySem.W.Frag} {x qual : Str} {st : Stmt} {f : Addr} {fd : FuncData} {ps ks : List Str} {na nb : Nat} {sel : List (Bool × Nat)} (F : Fun K x qual st f fd) (hps : ps ≠ [])
    (h : ∀ (kV doc pm : Value) (an : Option Addr) (cdv ct : Value) (us ws : List Value), us.length = na → ws.length = nb → bindArgs (PySem.W.fnOf x qual (defArgs st) (defBody st) (defScope st) .none kV doc pm an cdv ct) ⟨us, ks.zip ws⟩ = pure (ps.zip (kPerm na nb sel us ws))) :
    KBinds K fd ps ks (kPerm na nb sel) (kPerm na nb sel) := by
  obtain ⟨oc, od, kV, doc, pm, an, cdv, ct, osl, rfl, lk, hcd⟩ := F.ex
  refine ⟨fun s us ws _ hl => ?_, fun r r2 => kPerm_rel r r2⟩
  by_cases c : us.length = na ∧ ws.length = nb
  · exact .of_eq (h kV doc pm an cdv ct us ws c.1 c.2)
  · unfold kPerm at hl
    rw [if_neg c] at hl
    exact (hps (List.length_eq_zero_iff.mp hl.symm)).elim
section
variable {G : Fix} {X : Cx} {W : WX} {e : Expr} {es : List Expr} {kws : List Keyword} {g1 : ME} {gs ks' : MA} {pos p kpos : Pos} {x : Str} {nm : Option Str}
def SK (G : Fix) (X : Cx) (W : WX) (kws : List Keyword) (g : MA) : Prop := ∃ t, PK X kws t ∧ ∀ m σ S H Q, Rel G X.K m S H → wfσ S.n σ → ROk G X.K mvs wfs m S.n (g σ S) Q (fun c d H' => W c d (mst m σ) H') → t (mst m σ) H Q
theorem sKNil : SK G X W [] aNil := ⟨_, pk_nil, fun m σ S H Q R w q => q m H .refl (Nat.le_refl _) (fun _ h => nomatch h) R⟩
theorem sKCons (h : SE G X W e g1) (h2 : SK G X W kws gs) : SK G X W (⟨nm, e, kpos⟩ :: kws) (aCons g1 gs) := by
  obtain ⟨t, p, k⟩ := h
  obtain ⟨t2, p2, k2⟩ := h2
  refine ⟨_, pk_cons p p2, fun m σ S H Q R w q => ?_⟩
  refine k m σ S H _ R w (ROk.bind q fun x S1 m1 H1 e1 l1 w1 R1 q1 => ?_)
  rw [← mst_ext e1 w]
  refine k2 m1 σ S1 H1 _ R1 (w.mono l1) (ROk.bind (sbw e1 w q1) fun y S2 m2 H2 e2 l2 w2 R2 q2 => ?_)
  rw [← mv_ext e2 w1]
  exact q2 m2 H2 .refl (Nat.le_refl _) (fun z hz => (List.mem_cons.mp hz).elim (fun e => e ▸ w1.mono l2) (w2 z)) R2
theorem kPerm_mv {na nb : Nat} {sel : List (Bool × Nat)} {m : Nat → Addr} {vs zs : List V} : kPerm na nb sel (mvs m vs) (mvs m zs) = mvs m (kPerm na nb sel vs zs) := by
  unfold kPerm
  rw [List.length_map, List.length_map]
  by_cases c : vs.length = na ∧ zs.length = nb
  · rw [if_pos c, if_pos c]
    show _ = List.map (mv m) _
    rw [List.map_filterMap]
    refine congrArg (fun f => List.filterMap f sel) (funext fun q => ?_)
    obtain ⟨b, i⟩ := q
    cases b with
    | true => simp
    | false => simp
  · rw [if_neg c, if_neg c]
    rfl
theorem kPerm_wf {na nb : Nat} {sel : List (Bool × Nat)} {n : Nat} {vs zs : List V} (h : wfs n vs) (h2 : wfs n zs) : wfs n (kPerm na nb sel vs zs) := fun v hv => by
  unfold kPerm at hv
  by_cases c : vs.length = na ∧ zs.length = nb
  · rw [if_pos c] at hv
    obtain ⟨⟨b, i⟩, _, hq⟩ := List.mem_filterMap.mp hv
    cases b with
    | true => exact h2 v (List.mem_of_getElem? (by simpa using hq))
    | false => exact h v (List.mem_of_getElem? (by simpa using hq))
  · rw [if_neg c] at hv
    cases hv
def gCallK (n na nb : Nat) (sel : List (Bool × Nat)) (g : List V → Sto → Res V) (gs ks : MA) : ME := fun σ S => (gs σ S).bind fun vs S1 => (ks σ S1).bind fun zs S2 => if (kPerm na nb sel vs zs).length = n then g (kPerm na nb sel vs zs) S2 else .no
theorem run_fnKS {CX : CXT} {k : Nat} {f : Addr} {fd : FuncData} {ps ks : List Str} {sp : Sp} {E : XK} {pins : List (Addr × Obj)} {σ : St} {H : Hp} {s : Shared} {Q : VK} {us ws : List Value} {vs zs : List V} {g : List Value → List Value → List Value} {gV : List V → List V → List V}
    (F : FnOk X.prog X.w X.K X.mg X.base CX k f fd ps sp) (hr : Room k X.A) (hb : KBinds X.K fd ps ks g gV) (hx : PassesAt CX X σ E) (I : Inv X pins σ H s) (r : Vals vs us) (rz : Vals zs ws) (h : sp (gV vs zs) H Q E) :
    wpAny (model X.prog X.w) X.A (call (.ref f) us (ks.zip ws)) (EP X pins σ Q) X.xe s := by
  have r2 := hb.rel r rz
  have hl : (g us ws).length = ps.length := by rw [← r2.length]; exact F.len _ _ _ _ h
  refine wpAny_call (codeAny_mono (F.run X.A X.stack s H ⟨us, ks.zip ws⟩ (g us ws) (gV vs zs) Q E hr I.env0 (hb.to s us ws I.kIn hl) r2 h) fun r s' hq => ?_)
  cases r with
  | error e => exact hx pins H s e s' I hq
  | ok fl =>
    cases fl with
    | ret u => exact I.after hq
    | next => exact False.elim hq
    | brk => exact False.elim hq
    | cont => exact False.elim hq
theorem sCallK0 {k : Nat} {f : Addr} {fd : FuncData} {ps ks : List Str} {na nb : Nat} {sel : List (Bool × Nat)} {g : List V → Sto → Res V} (D : Dfn G X.prog X.w X.K X.mg X.base k x f fd ps g) (hb : KBinds X.K fd ps ks (kPerm na nb sel) (kPerm na nb sel)) (hr : Room k X.A) (tk : Takes X W) (hg : Gl X x)
    (hk : SK G X W kws ks') (hall : (backToKw pos (keywordEach kws X.env)).all (·.1.isSome) = true := by rfl) (hks : (backToKw pos (keywordEach kws X.env)).filterMap (·.1) = ks := by rfl)
    (hdb : (x == ("__debug__" : Str)) = false := by decide) (hpl : (backToKw pos (keywordEach kws X.env)).any (·.1.isNone) = false := by rfl) : SE G X W (.Call (.Name x p) [] kws pos) (gCallK ps.length na nb sel g aNil ks') := by
  obtain ⟨t, pt, kt⟩ := hk
  refine ⟨fun σ H Q => t σ H fun zs H1 => SpG G X.K ps.length g (kPerm na nb sel [] zs) H1 Q (WE W σ), ⟨fun pins s σ H Q I h => ?_⟩, fun m σ S H Q R w q => ?_⟩
  · refine wpAny_Call_Name_kw (ld_glob I hg D.mg ?_ hdb)
    refine PySem.W.callWith_KW0 (h₀ := X.base) I.ok.mod.kin D.kp hall (thn (pt.run pos pins s σ H _ I h) fun ws s2 ⟨zs, H2, I2, rz, q2⟩ => ⟨I2.kIn, ?_⟩) hpl
    rw [hks]
    exact run_fnKS D.ok hr hb (passAt tk σ) I2 .nil rz q2
  · refine kt m σ S H _ R w (ROk.bind (show ROk G X.K mv wfV m S.n ((ks' σ S).bind _) Q _ from q) fun zs S1 m1 H1 e1 l1 w1 R1 q1 => ?_)
    obtain ⟨hl, q2⟩ := if_ok q1
    exact ⟨m1, S1, _, kPerm_mv (vs := []) , hl, R1, kPerm_wf (fun _ h => nomatch h) w1, q2⟩
theorem sCallK {k : Nat} {f : Addr} {fd : FuncData} {ps ks : List Str} {na nb : Nat} {sel : List (Bool × Nat)} {g : List V → Sto → Res V} (D : Dfn G X.prog X.w X.K X.mg X.base k x f fd ps g) (hb : KBinds X.K fd ps ks (kPerm na nb sel) (kPerm na nb sel)) (hr : Room k X.A) (tk : Takes X W) (hg : Gl X x)
    (ha : SA G X W (e :: es) gs) (hk : SK G X W kws ks') (hall : (backToKw pos (keywordEach kws X.env)).all (·.1.isSome) = true := by rfl) (hks : (backToKw pos (keywordEach kws X.env)).filterMap (·.1) = ks := by rfl)
    (hdb : (x == ("__debug__" : Str)) = false := by decide) (he : starEach (e :: es) X.env = (false, eval e X.env) :: starEach es X.env := by rfl)
    (hpl : ((backTo pos (starEach (e :: es) X.env)).any (·.1) || (backToKw pos (keywordEach kws X.env)).any (·.1.isNone)) = false := by rfl) : SE G X W (.Call (.Name x p) (e :: es) kws pos) (gCallK ps.length na nb sel g gs ks') := by
  obtain ⟨t1, p1, k1⟩ := ha
  obtain ⟨t, pt, kt⟩ := hk
  refine ⟨fun σ H Q => t1 σ H fun vs H1 => t σ H1 fun zs H2 => SpG G X.K ps.length g (kPerm na nb sel vs zs) H2 Q (WE W σ), ⟨fun pins s σ H Q I h => ?_⟩, fun m σ S H Q R w q => ?_⟩
  · refine wpAny_Call_Name_kw (ld_glob I hg D.mg ?_ hdb)
    refine PySem.W.callWith_KW (h₀ := X.base) I.ok.mod.kin D.kp hall (thn (p1.run pos pins s σ H _ I h) fun us s1 ⟨vs, H1, I1, r, q⟩ => ?_) hpl he
    refine thn (pt.run pos pins s1 σ H1 _ I1 q) fun ws s2 ⟨zs, H2, I2, rz, q2⟩ => ⟨I2.kIn, ?_⟩
    rw [hks]
    exact run_fnKS D.ok hr hb (passAt tk σ) I2 r rz q2
  · refine k1 m σ S H _ R w (ROk.bind q fun vs S1 m1 H1 e1 l1 w1 R1 q1 => ?_)
    rw [← mst_ext e1 w]
    refine kt m1 σ S1 H1 _ R1 (w.mono l1) (ROk.bind (sbw e1 w q1) fun zs S2 m2 H2 e2 l2 w2 R2 q2 => ?_)
    obtain ⟨hl, q3⟩ := if_ok q2
    rw [← mvs_ext e2 w1]
    exact ⟨m2, S2, _, kPerm_mv, hl, R2, kPerm_wf (w1.mono l2) w2, q3⟩
/-- a module's name that holds a tuple of the written part: at place j of the store -/
def eK (j k : Nat) : ME := fun _ S => match S.get j with
  | some (.ktup l _) => if l = k then .ok (.ref j) S else .no
  | _ => .no
theorem sK {j k : Nat} (hg : Gl X x) (hm : X.mg x = some (.ref (G.sta k))) (hd : (x == ("__debug__" : Str)) = false := by decide) : SE G X W (.Name x pos) (eK j k) := by
  refine ⟨_, pe_glob (v := .ref (G.sta k)) hg hm rfl hd, fun m σ S H Q R w q => ?_⟩
  unfold eK at q
  split at q
  · rename_i l ys e
    obtain ⟨c, q⟩ := if_ok q
    have z := q m H .refl (Nat.le_refl _) (R.dom _ _ e) R
    rw [show mv m (.ref j) = .ref (G.sta k) from congrArg V.ref ((R.holds _ _ e).1.trans (by rw [c]))] at z
    exact z
  · exact q.elim

/-! ### the operators, whole -/
theorem hu64 {k : Nat} {A : Around} (hr : Room k A) : A.units + 64 < cLine := by have := hr.un; omega
theorem hu65 {k : Nat} {A : Around} (hr : Room k A) : A.units + 65 < cLine := by have := hr.un; omega
abbrev oAdd : V → V → Sto → Res V := fun x y S => (oAddI x y S).or ((fun x y S => (oAddS x y S).or (oCat x y S)) x y S)
theorem sAdd : SO G X W (binaryOp .Add) oAdd := sAddI.or (sAddS.or sCat)
abbrev oMul : V → V → Sto → Res V := fun x y S => (oMulI x y S).or (oRepS x y S)
theorem sMul : SO G X W (binaryOp .Mult) oMul := sMulI.or sRepS
abbrev oEq : V → V → Sto → Res V := fun x y S => (oEqS x y S).or (oEqD x y S)
theorem sEq {k : Nat} (hr : Room k X.A) : SO G X W (compareOp .Eq) oEq := sEqS.or (sEqD (hu64 hr))
abbrev oNe : V → V → Sto → Res V := fun x y S => (oNeS x y S).or (oNeD x y S)
theorem sNe {k : Nat} (hr : Room k X.A) : SO G X W (compareOp .NotEq) oNe := sNeS.or (sNeD (hu64 hr))
abbrev oIn : V → V → Sto → Res V := fun x y S => (oInS x y S).or ((fun x y S => (oInF false x y S).or (oInD false x y S)) x y S)
theorem sIn {k : Nat} (hr : Room k X.A) : SO G X W (compareOp .In) oIn := sInS.or (sInF.or (sInD (hu65 hr)))
abbrev oNotIn : V → V → Sto → Res V := fun x y S => (oNotInS x y S).or ((fun x y S => (oInF true x y S).or (oInD true x y S)) x y S)
theorem sNotIn {k : Nat} (hr : Room k X.A) : SO G X W (compareOp .NotIn) oNotIn := sNotInS.or (sNotInF.or (sNotInD (hu65 hr)))
abbrev cSeq : V → Option Int → Option Int → Sto → Res V := fun x l u S => (cLst x l u S).or (cStr x l u S)
theorem sCSeq : SSl G X W cSeq := sCLst.or sCStr
abbrev mStart : V → List V → Sto → Res V := fun x vs S => (mStarts x vs S).or (mStarts3 x vs S)
theorem sStart : SMt G X W "str" "str.startswith" mStart := sStarts.or sStarts3
/-- x += y -/
theorem sIpAdd : SIp G X W .Add oAddI := by
  refine ⟨_, ip_add, fun m σ S H x y Q R wx wy q => ?_⟩
  obtain ⟨i, ei, q⟩ := go_ok q
  obtain ⟨j, ej, q⟩ := go_ok q
  obtain ⟨z, q⟩ := if_ok q
  rw [vInt_of ei, vInt_of ej]
  exact ⟨i, j, rfl, rfl, ok_plain R q trivial⟩
theorem sIpSub : SIp G X W .Sub oSubI := by
  refine ⟨_, ip_sub, fun m σ S H x y Q R wx wy q => ?_⟩
  obtain ⟨i, ei, q⟩ := go_ok q
  obtain ⟨j, ej, q⟩ := go_ok q
  obtain ⟨z, q⟩ := if_ok q
  rw [vInt_of ei, vInt_of ej]
  exact ⟨i, j, rfl, rfl, ok_plain R q trivial⟩
/-- what no run comes to -/
def mNo : MS := fun _ _ => .no
theorem sNever {st : Stmt} : SS G X W st mNo := ⟨_, ps_never, fun m σ S H D R w q => q.elim⟩
end
end Hf

/-! Sim: the store at the beginning; what the plain functions come to. -/
namespace Hf
open PySem PySem.Spec L2

/-! ### a store of written objects -/
def pushAll (S : Sto) : List Ob → Sto
  | [] => S
  | o :: os => pushAll (S.push o) os
theorem pushAll_n : ∀ (os : List Ob) (S : Sto), (pushAll S os).n = S.n + os.length
  | [], S => rfl
  | o :: os, S => by
    show (pushAll (S.push o) os).n = _
    rw [pushAll_n os, Sto.n_push, List.length_cons]
    omega
theorem pushAll_get : ∀ (os : List Ob) (S : Sto) (i : Nat), (pushAll S os).get i = if i < S.n then S.get i else if h : i - S.n < os.length then some os[i - S.n] else S.get i
  | [], S, i => by
    show S.get i = _
    by_cases h : i < S.n
    · rw [if_pos h]
    · rw [if_neg h, dif_neg (by simp)]
  | o :: os, S, i => by
    show (pushAll (S.push o) os).get i = _
    rw [pushAll_get os, Sto.n_push, Sto.get_push]
    by_cases h : i < S.n
    · rw [if_pos (by omega), if_neg (by omega), if_pos h]
    · rw [if_neg h]
      by_cases e : i = S.n
      · subst e
        rw [if_pos (by omega), if_pos rfl, dif_pos (by simp)]
        simp
      · rw [if_neg (by omega), if_neg e]
        by_cases h2 : i - S.n < (o :: os).length
        · rw [dif_pos h2, dif_pos (by rw [List.length_cons] at h2; omega)]
          have e2 : i - S.n = (i - (S.n + 1)) + 1 := by omega
          simp only [e2, List.getElem_cons_succ]
        · rw [dif_neg h2, dif_neg (by rw [List.length_cons] at h2; omega)]
def mkS (os : List Ob) : Sto := pushAll ⟨0, .e⟩ os
theorem mkS_n (os : List Ob) : (mkS os).n = os.length := by
  unfold mkS
  rw [pushAll_n]
  show 0 + _ = _
  omega
theorem mkS_get (os : List Ob) (i : Nat) : (mkS os).get i = os[i]? := by
  unfold mkS
  rw [pushAll_get]
  show (if i < 0 then _ else if h : i - 0 < os.length then some os[i - 0] else (Tr.e : Tr Ob).get i) = _
  rw [if_neg (Nat.not_lt_zero _)]
  by_cases h : i < os.length
  · rw [dif_pos (by simpa using h), List.getElem?_eq_getElem h]
    rfl
  · rw [dif_neg (by simpa using h), List.getElem?_eq_none (by omega)]
    rfl
theorem rel_mk {G : Fix} {K : PySem.W.Frag} {m : Nat → Addr} {H : Hp} {os : List Ob} (h : ∀ i o, os[i]? = some o → Holds G K m H i o) (hi : ∀ (i j : Nat) (oi oj : Ob), os[i]? = some oi → os[j]? = some oj → oi.trk = true → oj.trk = true → i = j)
    (w : ∀ o ∈ os, o.wf os.length) : Rel G K m (mkS os) H := by
  refine ⟨fun i o e => h i o (by rw [← mkS_get]; exact e), fun i j oi oj e1 e2 t1 t2 _ => ?_, fun i o e => ?_, fun i o e => ?_⟩
  · rw [mkS_get] at e1 e2
    exact hi i j oi oj e1 e2 t1 t2
  · rw [mkS_get] at e
    rw [mkS_n]
    exact (List.getElem?_eq_some_iff.mp e).1
  · rw [mkS_get] at e
    rw [mkS_n]
    exact w o (List.mem_of_getElem? e)

/-! ### what the top has written, by the head's facts -/
/-- a def of the text -/
def FAt (K : PySem.W.Frag) (x : Str) (st : Stmt) : Prop := ∃ (f : Addr) (oc : Value) (od : Option Addr) (kV dc pm : Value) (an : Option Addr) (cd ct : Value) (sl : Array (Option Value)),
  PySem.W.nsIn K mainGlobals x = some (some (.ref f)) ∧ K.lookup f = some ⟨oc, od, .func (PySem.W.fnOf x x (defArgs st) (defBody st) (defScope st) .none kV dc pm an cd ct), sl⟩ ∧ PySem.W.codeIn K cd x = true ∧ PySem.W.keepIn K (.ref f) = true
theorem FAt.mk {K : PySem.W.Frag} {x : Str} {st : Stmt} {f : Addr} {oc : Value} {od : Option Addr} {kV dc pm : Value} {an : Option Addr} {cd ct : Value} {sl : Array (Option Value)} (h1 : PySem.W.nsIn K mainGlobals x = some (some (.ref f)))
    (h2 : K.lookup f = some ⟨oc, od, .func (PySem.W.fnOf x x (defArgs st) (defBody st) (defScope st) .none kV dc pm an cd ct), sl⟩) (h3 : PySem.W.codeIn K cd x = true) (h4 : PySem.W.keepIn K (.ref f) = true) : FAt K x st := ⟨f, oc, od, kV, dc, pm, an, cd, ct, sl, h1, h2, h3, h4⟩
theorem FAt.get {K : PySem.W.Frag} {x : Str} {st : Stmt} {h : Heap} {mg : Str → Option Value} (F : FAt K x st) (X : K.In h) (G : h.Ns mainGlobals mg) : ∃ (f : Addr) (fd : FuncData), Fun K x x st f fd ∧ mg x = some (.ref f) := by
  obtain ⟨f, oc, od, kV, dc, pm, an, cd, ct, sl, h1, h2, h3, h4⟩ := F
  exact ⟨f, _, fun_mk h2 h3 h4, PySem.W.mg_of X G h1⟩
/-- a module's plain value -/
def CAt (K : PySem.W.Frag) (x : Str) (v : V) : Prop := ∃ u, PySem.W.nsIn K mainGlobals x = some (some u) ∧ RelV v u
theorem CAt.mk {K : PySem.W.Frag} {x : Str} {v : V} {u : Value} (h1 : PySem.W.nsIn K mainGlobals x = some (some u)) (h2 : RelV v u) : CAt K x v := ⟨u, h1, h2⟩
theorem CAt.get {K : PySem.W.Frag} {x : Str} {v : V} {h : Heap} {mg : Str → Option Value} (F : CAt K x v) (X : K.In h) (G : h.Ns mainGlobals mg) : ∃ u, mg x = some u ∧ RelV v u := by
  obtain ⟨u, h1, h2⟩ := F
  exact ⟨u, PySem.W.mg_of X G h1, h2⟩
/-- a module's tuple of plain values -/
def TAt (K : PySem.W.Frag) (x : Str) (vs : List V) : Prop := ∃ (a : Addr) (its : Array Value) (n : Nat) (sl : Array (Option Value)), PySem.W.nsIn K mainGlobals x = some (some (.ref a)) ∧ K.lookup a = some ⟨.type "tuple", none, .seq its n, sl⟩ ∧ its.size ≤ sizeLine ∧ Vals vs its.toList
theorem TAt.mk {K : PySem.W.Frag} {x : Str} {vs : List V} {a : Addr} {its : Array Value} {n : Nat} {sl : Array (Option Value)} (h1 : PySem.W.nsIn K mainGlobals x = some (some (.ref a))) (h2 : K.lookup a = some ⟨.type "tuple", none, .seq its n, sl⟩) (h3 : its.size ≤ sizeLine) (h4 : Vals vs its.toList) : TAt K x vs := ⟨a, its, n, sl, h1, h2, h3, h4⟩
theorem TAt.get {K : PySem.W.Frag} {x : Str} {vs : List V} {h : Heap} {mg : Str → Option Value} (F : TAt K x vs) (X : K.In h) (G : h.Ns mainGlobals mg) : ∃ a, mg x = some (.ref a) ∧ KSq "tuple" K a vs := by
  obtain ⟨a, its, n, sl, h1, h2, h3, h4⟩ := F
  exact ⟨a, PySem.W.mg_of X G h1, _, its, n, h2, rfl, rfl, rfl, h3, h4⟩
theorem flatmap {m : Nat → Addr} {xs : List V} (h : xs.all flatV = true) : mvs m xs = xs := flats_mv h

/-! ### what the plain functions come to -/
section
variable {S : Sto} {i j : Int} {a b : Str} {x y : V}
theorem szOk_to {n : Nat} (h : n ≤ sizeLine) : szOk n = true := decide_eq_true h
theorem oAdd_int : oAdd (.int i) (.int j) S = .ok (.int (i + j)) S := rfl
theorem oSub_int : oSubI (.int i) (.int j) S = .ok (.int (i - j)) S := rfl
theorem oLt_int : oLt (.int i) (.int j) S = .ok (.bl (decide (i < j))) S := rfl
theorem oLe_int : oLe (.int i) (.int j) S = .ok (.bl (decide (i ≤ j))) S := rfl
theorem oGt_int : oGt (.int i) (.int j) S = .ok (.bl (decide (j < i))) S := rfl
theorem oGe_int : oGe (.int i) (.int j) S = .ok (.bl (decide (j ≤ i))) S := rfl
theorem oMul_int (h : cMulW i j = true) : oMul (.int i) (.int j) S = .ok (.int (i * j)) S := by
  show (if cMulW i j = true then Res.ok (V.int (i * j)) S else .no).or _ = _
  rw [if_pos h]
  rfl
theorem oMod_int (h : 0 < j) : oModI (.int i) (.int j) S = .ok (.int (i % j)) S := by
  show (if cPos i j = true then Res.ok (V.int (i % j)) S else .no) = _
  rw [if_pos (show cPos i j = true from decide_eq_true h)]
theorem oDiv_int (h : 0 < j) (h2 : j.natAbs.log2 < 9000) : oDivI (.int i) (.int j) S = .ok (.int (i / j)) S := by
  show (if cDivW i j = true then Res.ok (V.int (i / j)) S else .no) = _
  rw [if_pos (by unfold cDivW; rw [decide_eq_true h, decide_eq_true h2]; rfl)]
theorem oAdd_str (h : a.length + b.length ≤ sizeLine) : oAdd (.str a) (.str b) S = .ok (.str (a ++ b)) S := by
  show ((if szOk (a.length + b.length) = true then Res.ok (V.str (a ++ b)) S else .no).or _) = _
  rw [if_pos (szOk_to h)]
  rfl
theorem oMul_str (h : cRepS a j = true) : oMul (.str a) (.int j) S = .ok (.str (repS a j)) S := by
  show (if cRepS a j = true then Res.ok (V.str (repS a j)) S else .no) = _
  rw [if_pos h]
theorem cMulW_of {p q : Nat} (h1 : i.natAbs < 2 ^ p) (h2 : j.natAbs < 2 ^ q) (h0 : 0 < p) (h3 : 0 < q) (h : p + q ≤ 1000000) : cMulW i j = true := decide_eq_true (wide_mul h1 h2 h0 h3 h)
theorem newL_eq {xs : List V} (h : xs.length ≤ sizeLine) : newL xs S = .ok (.ref S.n) (S.push (.lst xs)) := by
  unfold newL
  rw [if_pos (szOk_to h)]
  rfl
theorem newT_eq {xs : List V} (h : xs.length ≤ sizeLine) : newT xs S = .ok (.ref S.n) (S.push (.tup xs)) := by
  unfold newT
  rw [if_pos (szOk_to h)]
  rfl
theorem small (n : Nat) (h : n ≤ 1000 := by decide) : n ≤ sizeLine := Nat.le_of_lt (small1000 h)
end
/-- a run comes to an end with a value -/
def Run {α : Type} (r : Res α) (Q : α → Sto → Prop) : Prop := match r with | .ok a S => Q a S | _ => False
theorem Run.bind {α β : Type} {r : Res α} {k : α → Sto → Res β} {Q : β → Sto → Prop} (h : Run r fun a S => Run (k a S) Q) : Run (r.bind k) Q := by
  cases r with
  | ok a S => exact h
  | ex c d S => exact h.elim
  | no => exact h.elim
theorem Run.imp {α : Type} {r : Res α} {Q Q' : α → Sto → Prop} (h : Run r Q) (k : ∀ a S, Q a S → Q' a S) : Run r Q' := by
  cases r with
  | ok a S => exact k _ _ h
  | ex c d S => exact h.elim
  | no => exact h.elim
theorem Run.get {α : Type} {r : Res α} {Q : α → Sto → Prop} (h : Run r Q) : ∃ a S, r = .ok a S ∧ Q a S := by
  cases r with
  | ok a S => exact ⟨a, S, rfl, h⟩
  | ex c d S => exact h.elim
  | no => exact h.elim
/-- the same of statements: qn what follows, qr what is returned -/
def RunS (r : SRes) (qn : St → Sto → Prop) (qr : V → Sto → Prop) : Prop := match r with | .nx σ S => qn σ S | .rt v S => qr v S | _ => False
theorem RunS.seq {u v : MS} {σ : St} {S : Sto} {qn : St → Sto → Prop} {qr : V → Sto → Prop} (h : RunS (u σ S) (fun σ' S' => RunS (v σ' S') qn qr) qr) : RunS (mSeq u v σ S) qn qr := by
  unfold mSeq
  cases e : u σ S with
  | nx σ' S' => rw [e] at h; exact h
  | rt w S' => rw [e] at h; exact h
  | _ => rw [e] at h; exact h.elim
theorem RunS.sb {α : Type} {r : Res α} {σ : St} {k : α → Sto → SRes} {qn : St → Sto → Prop} {qr : V → Sto → Prop} (h : Run r fun a S => RunS (k a S) qn qr) : RunS (r.sb σ k) qn qr := by
  cases r with
  | ok a S => exact h
  | ex c d S => exact h.elim
  | no => exact h.elim
theorem RunS.imp {r : SRes} {qn qn' : St → Sto → Prop} {qr qr' : V → Sto → Prop} (h : RunS r qn qr) (h1 : ∀ σ S, qn σ S → qn' σ S) (h2 : ∀ v S, qr v S → qr' v S) : RunS r qn' qr' := by
  cases r with
  | nx σ S => exact h1 _ _ h
  | rt v S => exact h2 _ _ h
  | _ => exact h.elim
theorem Run.body {N : List Str} {u : MS} {us : List V} {S : Sto} {Q : V → Sto → Prop} (h : RunS (u (L2.start N us) S) (fun _ S' => Q .non S') Q) : Run (bodyF N u us S) Q := by
  unfold bodyF
  cases e : u (L2.start N us) S with
  | nx σ S2 => rw [e] at h; exact h
  | rt v S2 => rw [e] at h; exact h
  | _ => rw [e] at h; exact h.elim
end Hf

/-! Sim: the logic of runs in equations; loops; the store in parts; texts as lists. -/
namespace Hf
open PySem PySem.Spec L2

section
variable {α β : Type} {S S' : Sto} {σ : St}
theorem run_ok {a : α} {Q : α → Sto → Prop} : Run (Res.ok a S) Q = Q a S := rfl
theorem run_no {Q : α → Sto → Prop} : Run Res.no Q = False := rfl
theorem run_bind {r : Res α} {k : α → Sto → Res β} {Q : β → Sto → Prop} : Run (r.bind k) Q = Run r (fun a S => Run (k a S) Q) := by cases r <;> rfl
variable {qn : St → Sto → Prop} {qr : V → Sto → Prop}
theorem runS_nx : RunS (.nx σ S) qn qr = qn σ S := rfl
theorem runS_rt {v : V} : RunS (.rt v S) qn qr = qr v S := rfl
theorem runS_no : RunS .no qn qr = False := rfl
theorem runS_seq {u v : MS} : RunS (mSeq u v σ S) qn qr = RunS (u σ S) (fun σ' S' => RunS (v σ' S') qn qr) qr := by
  unfold mSeq
  cases u σ S <;> rfl
theorem runS_sb {r : Res α} {k : α → Sto → SRes} : RunS (r.sb σ k) qn qr = Run r fun a S => RunS (k a S) qn qr := by cases r <;> rfl
theorem run_body {N : List Str} {u : MS} {us : List V} {Q : V → Sto → Prop} : Run (bodyF N u us S) Q = RunS (u (L2.start N us) S) (fun _ S' => Q .non S') Q := by
  unfold bodyF
  cases u (L2.start N us) S <;> rfl
theorem run_call {n : Nat} {g : List V → Sto → Res V} {gs : MA} {Q : V → Sto → Prop} : Run (gCall n g gs σ S) Q = Run (gs σ S) fun vs S1 => vs.length = n ∧ Run (g vs S1) Q := by
  unfold gCall
  rw [run_bind]
  congr 1
  funext vs S1
  by_cases h : vs.length = n
  · rw [if_pos h, eq_true h, true_and]
  · rw [if_neg h, eq_false h, false_and]
    rfl
theorem run_go {o : Option α} {k : α → Res β} {Q : β → Sto → Prop} : Run (Option.go o k) Q = ∃ a, o = some a ∧ Run (k a) Q := by
  cases o with
  | none => exact propext ⟨fun h => h.elim, fun ⟨a, h, _⟩ => by cases h⟩
  | some a => exact propext ⟨fun h => ⟨a, rfl, h⟩, fun ⟨b, h, q⟩ => by cases h; exact q⟩
theorem run_if {c : Prop} [Decidable c] {r : Res α} {Q : α → Sto → Prop} : Run (if c then r else .no) Q = (c ∧ Run r Q) := by
  by_cases h : c
  · rw [if_pos h, eq_true h, true_and]
  · rw [if_neg h, eq_false h, false_and]
    rfl
theorem run_newL {xs : List V} {Q : V → Sto → Prop} : Run (newL xs S) Q = (xs.length ≤ sizeLine ∧ Q (.ref S.n) (S.push (.lst xs))) := by
  by_cases h : xs.length ≤ sizeLine
  · rw [newL_eq h, eq_true h, true_and]
    rfl
  · rw [eq_false h, false_and]
    unfold newL szOk
    rw [if_neg (fun e => h (of_decide_eq_true e))]
    rfl
theorem run_newT {xs : List V} {Q : V → Sto → Prop} : Run (newT xs S) Q = (xs.length ≤ sizeLine ∧ Q (.ref S.n) (S.push (.tup xs))) := by
  by_cases h : xs.length ≤ sizeLine
  · rw [newT_eq h, eq_true h, true_and]
    rfl
  · rw [eq_false h, false_and]
    unfold newT szOk
    rw [if_neg (fun e => h (of_decide_eq_true e))]
    rfl
theorem seqSet {i : Nat} {g : ME} {rest : MS} (h : Run (g σ S) fun x S1 => RunS (rest (σ.set i (some x)) S1) qn qr) : RunS (mSeq (mSet i g) rest σ S) qn qr := by
  rw [runS_seq]
  show RunS (Res.sb _ _ _) _ _
  rw [runS_sb]
  exact h
theorem seqExpr {g : ME} {rest : MS} (h : Run (g σ S) fun _ S1 => RunS (rest σ S1) qn qr) : RunS (mSeq (mExpr g) rest σ S) qn qr := by
  rw [runS_seq]
  show RunS (Res.sb _ _ _) _ _
  rw [runS_sb]
  exact h
theorem seqAsg {g : ME} {t : V → St → Sto → Res St} {rest : MS} (h : Run (g σ S) fun x S1 => Run (t x σ S1) fun σ2 S2 => RunS (rest σ2 S2) qn qr) : RunS (mSeq (mAsg g t) rest σ S) qn qr := by
  rw [runS_seq]
  show RunS (Res.sb _ _ _) _ _
  rw [runS_sb]
  refine h.imp fun x S1 z => ?_
  rw [runS_sb]
  exact z
theorem seqRet {c : MT} {u v rest : MS} (hc : c σ S = .ok true S) (h : RunS (u σ S) (fun _ _ => False) qr) : RunS (mSeq (mIf c u v) rest σ S) qn qr := by
  rw [runS_seq]
  show RunS (Res.sb (c σ S) _ _) _ _
  rw [hc]
  exact RunS.imp h (fun _ _ => False.elim) fun _ _ => id
theorem seqSkip {c : MT} {u rest : MS} (hc : c σ S = .ok false S) (h : RunS (rest σ S) qn qr) : RunS (mSeq (mIf c u mNext) rest σ S) qn qr := by
  rw [runS_seq]
  show RunS (Res.sb (c σ S) _ _) _ _
  rw [hc]
  exact h
theorem seqTake {c : MT} {u v rest : MS} (hc : c σ S = .ok true S) (h : RunS (u σ S) (fun σ' S' => RunS (rest σ' S') qn qr) qr) : RunS (mSeq (mIf c u v) rest σ S) qn qr := by
  rw [runS_seq]
  show RunS (Res.sb (c σ S) _ _) _ _
  rw [hc]
  exact h
theorem seqMid {u rest : MS} (Mid : St → Sto → Prop) (h : RunS (u σ S) Mid (fun _ _ => False)) (k : ∀ σ' S', Mid σ' S' → RunS (rest σ' S') qn qr) : RunS (mSeq u rest σ S) qn qr := by
  rw [runS_seq]
  exact RunS.imp h k fun _ _ => False.elim
theorem midIf {c : MT} {u v : MS} (h : Run (c σ S) fun b S1 => RunS (match b with | true => u σ S1 | false => v σ S1) qn qr) : RunS (mIf c u v σ S) qn qr := by
  show RunS (Res.sb _ _ _) _ _
  rw [runS_sb]
  exact h
theorem seqSetOk {i : Nat} {g : ME} {rest : MS} {x : V} {S1 : Sto} (hg : g σ S = .ok x S1) (h : RunS (rest (σ.set i (some x)) S1) qn qr) : RunS (mSeq (mSet i g) rest σ S) qn qr :=
  seqSet (by rw [hg]; exact h)
theorem seqExprOk {g : ME} {rest : MS} {x : V} {S1 : Sto} (hg : g σ S = .ok x S1) (h : RunS (rest σ S1) qn qr) : RunS (mSeq (mExpr g) rest σ S) qn qr :=
  seqExpr (by rw [hg]; exact h)
theorem midIfT {c : MT} {u v : MS} {S1 : Sto} (hc : c σ S = .ok true S1) (h : RunS (u σ S1) qn qr) : RunS (mIf c u v σ S) qn qr := midIf (by rw [hc]; exact h)
theorem midIfF {c : MT} {u v : MS} {S1 : Sto} (hc : c σ S = .ok false S1) (h : RunS (v σ S1) qn qr) : RunS (mIf c u v σ S) qn qr := midIf (by rw [hc]; exact h)
theorem run_noEx {r : Res α} {Q : α → Sto → Prop} : Run (noEx r) Q = Run r Q := by cases r <;> rfl
/-- both ways of a test -/
theorem runS_if {k : Bool} {u v : SRes} : RunS (match k with | true => u | false => v) qn qr = ((k = true → RunS u qn qr) ∧ (k = false → RunS v qn qr)) := by cases k <;> simp

/-! ### loops -/
theorem while_run {c : MT} {u : MS} {J : Nat → St → Sto → Prop}
    (hJ : ∀ k σ S, J k σ S → Run (c σ S) fun b S1 => (b = true → RunS (u σ S1) (fun σ' S' => ∃ k', k' < k ∧ J k' σ' S') qr) ∧ (b = false → qn σ S1)) :
    ∀ (fuel k : Nat) (σ : St) (S : Sto), J k σ S → k < fuel → RunS (whileL c u fuel σ S) qn qr
  | 0, k, σ, S, _, hf => absurd hf (Nat.not_lt_zero _)
  | fuel + 1, k, σ, S, j, hf => by
    unfold whileL
    rw [runS_sb]
    refine (hJ k σ S j).imp fun b S1 q => ?_
    cases b with
    | false => exact q.2 rfl
    | true =>
      have z := q.1 rfl
      cases e : u σ S1 with
      | nx σ' S' =>
        rw [e] at z
        obtain ⟨k', hk, j'⟩ := z
        exact while_run hJ fuel k' σ' S' j' (by omega)
      | rt w S' => rw [e] at z; exact z
      | _ => rw [e] at z; exact z.elim
theorem for_run {w : Wk} {t : V → St → Sto → Res St} {u : MS} (N : Nat) {J : Nat → St → Sto → Prop}
    (hJ : ∀ i σ S, i < N → J i σ S → ∃ x S1, wkNext w i S = some (some (x, S1)) ∧ Run (t x σ S1) fun σ2 S2 => RunS (u σ2 S2) (J (i + 1)) qr)
    (h0 : ∀ σ S, J N σ S → wkNext w N S = some none ∧ qn σ S) :
    ∀ (fuel i : Nat) (σ : St) (S : Sto), J i σ S → i ≤ N → N < fuel + i → RunS (forL w t u fuel i σ S) qn qr
  | 0, i, σ, S, j, hi, hf => absurd hf (by omega)
  | fuel + 1, i, σ, S, j, hi, hf => by
    unfold forL
    by_cases e : i = N
    · subst e
      obtain ⟨e1, q⟩ := h0 σ S j
      rw [e1]
      exact q
    · obtain ⟨x, S1, e1, q⟩ := hJ i σ S (by omega) j
      rw [e1]
      show RunS (Res.sb _ _ _) _ _
      rw [runS_sb]
      refine q.imp fun σ2 S2 z => ?_
      cases e2 : u σ2 S2 with
      | nx σ' S' =>
        rw [e2] at z
        exact for_run N hJ h0 fuel (i + 1) σ' S' z (by omega) (by omega)
      | rt w S' => rw [e2] at z; exact z
      | _ => rw [e2] at z; exact z.elim
end

/-! ### what lies where -/
structure At (S : Sto) (i : Nat) (o : Ob) : Prop where
  get : S.get i = some o
  lt : i < S.n
/-- from S to S', of the old only the places of M are written -/
structure Fr (M : Nat → Prop) (S S' : Sto) : Prop where
  le : S.n ≤ S'.n
  eq : ∀ i, i < S.n → ¬ M i → S'.get i = S.get i
abbrev Fr0 := Fr fun _ => False
abbrev Fr1 (p : Nat) := Fr fun i => i = p
section
variable {M M' : Nat → Prop} {S S1 S2 : Sto} {i j : Nat} {o o' : Ob}
theorem Fr.refl : Fr M S S := ⟨Nat.le_refl _, fun _ _ _ => rfl⟩
theorem Fr.trans (a : Fr M S S1) (b : Fr M S1 S2) : Fr M S S2 := ⟨Nat.le_trans a.le b.le, fun i h n => (b.eq i (Nat.lt_of_lt_of_le h a.le) n).trans (a.eq i h n)⟩
theorem Fr.mono (a : Fr M S S1) (h : ∀ i, i < S.n → M i → M' i) : Fr M' S S1 := ⟨a.le, fun i hi n => a.eq i hi fun m => n (h i hi m)⟩
theorem Fr.of0 (a : Fr0 S S1) : Fr M S S1 := a.mono fun _ _ h => h.elim
theorem Fr.push : Fr M S (S.push o) := ⟨Nat.le_succ _, fun i h _ => by rw [Sto.get_push, if_neg (Nat.ne_of_lt h)]⟩
theorem Fr.set (h : S.n ≤ j ∨ M j) : Fr M S (S.set j o) := ⟨Nat.le_refl _, fun i hi n => by
  rw [Sto.get_set, if_neg (fun e => ?_)]
  subst e
  rcases h with h | h
  · omega
  · exact n h⟩
theorem Fr.setNew (f : Fr M S S1) (h : S.n ≤ j ∨ M j) : Fr M S (S1.set j o) := ⟨f.le, fun i hi n => by
  rw [Sto.get_set, if_neg (fun e => ?_)]
  · exact f.eq i hi n
  · subst e
    rcases h with h | h
    · omega
    · exact n h⟩
theorem At.fr (h : At S i o) (f : Fr M S S1) (n : ¬ M i) : At S1 i o := ⟨(f.eq i h.lt n).trans h.get, Nat.lt_of_lt_of_le h.lt f.le⟩
theorem At.fr0 (h : At S i o) (f : Fr0 S S1) : At S1 i o := h.fr f id
theorem At.push (h : At S i o) : At (S.push o') i o := h.fr0 Fr.push
theorem At.new : At (S.push o) S.n o := ⟨by rw [Sto.get_push, if_pos rfl], Nat.lt_succ_self _⟩
theorem At.set (h : At S i o) (e : i ≠ j) : At (S.set j o') i o := ⟨by rw [Sto.get_set, if_neg e]; exact h.get, h.lt⟩
theorem At.seti (h : At S i o) : At (S.set i o') i o' := ⟨by rw [Sto.get_set, if_pos rfl], h.lt⟩
theorem At.uniq (h : At S i o) (h' : At S i o') : o = o' := by
  have a := h.get
  rw [h'.get] at a
  cases a
  rfl
theorem At.lstAt {xs : List V} (h : At S i (.lst xs)) : lstAt S i = some xs := by unfold Hf.lstAt; rw [h.get]
theorem At.tupAt {xs : List V} (h : At S i (.tup xs)) : tupAt S i = some xs := by unfold Hf.tupAt; rw [h.get]
theorem At.lst_tup {xs : List V} (h : At S i (.lst xs)) : Hf.tupAt S i = none := by unfold Hf.tupAt; rw [h.get]
theorem At.tup_lst {xs : List V} (h : At S i (.tup xs)) : Hf.lstAt S i = none := by unfold Hf.lstAt; rw [h.get]
theorem At.mutAt {xs : List V} (h : At S i (.lst xs)) : Hf.mutAt S i = some xs := by unfold Hf.mutAt; rw [h.get]
theorem At.seqL {xs : List V} (h : At S i (.lst xs)) : seqAt S i = some xs := by unfold seqAt; rw [h.get]
theorem At.seqT {xs : List V} (h : At S i (.tup xs)) : seqAt S i = some xs := by unfold seqAt; rw [h.get]
end

/-! ### texts as lists -/
abbrev tx (l : List Nat) : Str := ⟨l.toArray⟩
theorem tx_of (x : Str) : x = tx x.cps.toList := by cases x; rfl
theorem tx_len (a : List Nat) : (tx a).length = a.length := SX.S_len a
theorem tx_cat (a b : List Nat) : tx a ++ tx b = tx (a ++ b) := SX.S_cat a b
theorem tx_inj {a b : List Nat} (h : tx a = tx b) : a = b := SX.S_inj h
theorem tx_eq {a b : List Nat} : (tx a = tx b) = (a = b) := propext ⟨tx_inj, fun h => h ▸ rfl⟩
theorem strIn_tx (c : Nat) (l : List Nat) : strIn (tx [c]) (tx l) = decide (c ∈ l) := SX.in_one l c
theorem atN {α : Type} {xs : List α} {n : Nat} : atI xs (n : Int) = xs[n]? := by
  unfold atI ixN
  rw [if_pos (by omega)]
  by_cases h : n < xs.length
  · rw [if_pos (by omega)]
    rfl
  · rw [if_neg (by omega), List.getElem?_eq_none (by omega)]
    rfl
theorem atI_of {α : Type} {xs : List α} {i : Int} {n : Nat} (h : i = n) : atI xs i = xs[n]? := by rw [h, atN]
theorem cut_nat (l : List Nat) (a b : Nat) (h : a ≤ b) (h2 : b ≤ l.length) : cutS (tx l) (some (a : Int)) (some (b : Int)) = tx ((l.drop a).take (b - a)) := by
  unfold cutS
  rw [HT.sIx_nat, HT.sIx_nat, tx_len, Nat.min_eq_left h2, Nat.min_eq_left (by omega)]
theorem starts3_nat (l w : List Nat) (a : Nat) (h : a ≤ l.length) : Txt.startswith3 (tx l) (tx w) (a : Int) = w.isPrefixOf (l.drop a) := by
  unfold Txt.startswith3 Builtin.Str.subAt PySem.fromIndex
  rw [if_neg (by omega), show (max 0 (a : Int)).toNat = a by omega, tx_len, tx_len]
  have e : ((tx l).cps.extract a (a + w.length) == (tx w).cps) = decide ((l.drop a).take w.length = w) := by
    show (l.toArray.extract a (a + w.length) == w.toArray) = _
    rw [List.extract_toArray, List.extract_eq_drop_take, show a + w.length - a = w.length by omega]
    by_cases e : (l.drop a).take w.length = w
    · rw [e]
      simp
    · rw [decide_eq_false e]
      exact beq_eq_false_iff_ne.mpr fun q => e (by simpa using q)
  rw [e, Bool.eq_iff_iff, List.isPrefixOf_iff_prefix, List.prefix_iff_eq_take, Bool.and_eq_true, decide_eq_true_eq, decide_eq_true_eq]
  constructor
  · rintro ⟨_, h2⟩
    exact h2.symm
  · intro h2
    refine ⟨?_, h2.symm⟩
    have := congrArg List.length h2
    rw [List.length_take, List.length_drop] at this
    omega
theorem foldl_rep (x : List Nat) : ∀ (n : Nat) (acc : Array Nat), (List.replicate n x.toArray).foldl (· ++ ·) acc = (acc.toList ++ (List.replicate n x).flatten).toArray
  | 0, acc => by simp
  | n + 1, acc => by
    rw [List.replicate_succ, List.foldl_cons, foldl_rep x n]
    simp [List.replicate_succ]
theorem rep_one (c : Nat) (n : Int) : repS (tx [c]) n = tx (List.replicate n.toNat c) := by
  unfold repS
  by_cases h : n < 1
  · rw [if_pos h, show n.toNat = 0 by omega]
    rfl
  · rw [if_neg h]
    by_cases e : n = 1
    · subst e
      rfl
    · have e2 : ((n == 1) || ((tx [c]).length == 0)) = false := by
        rw [tx_len, beq_eq_false_iff_ne.mpr e]
        rfl
      rw [if_neg (by rw [e2]; exact Bool.false_ne_true)]
      show (⟨(List.replicate n.toNat ([c] : List Nat).toArray).foldl (· ++ ·) #[]⟩ : Str) = _
      rw [foldl_rep]
      have : (List.replicate n.toNat [c]).flatten = List.replicate n.toNat c := by
        generalize n.toNat = k
        induction k with
        | zero => rfl
        | succ k ih => rw [List.replicate_succ, List.flatten_cons, ih, List.replicate_succ]; rfl
      rw [this]
      rfl
theorem join_nil : ∀ ys : List (List Nat), Txt.join (tx []) (ys.map tx) = tx ys.flatten := by
  intro ys
  rw [show (ys.map tx) = ys.map SX.S from rfl, show tx [] = SX.S [] from rfl, SX.join_S]
  congr 2
  induction ys with
  | nil => rfl
  | cons p r ih =>
    cases r with
    | nil => simp [TL.joinL]
    | cons q r => rw [TL.joinL, ih]; simp
section
variable {S : Sto} {row sg : List Nat} {n : Nat} {c : Nat} {a : Nat} {xs ys : List V} {i : Int} {v : V}
theorem iSeq_tx (h : row.length ≤ sizeLine) (hc : row[n]? = some c) : iSeq (.str (tx row)) (.int (n : Nat)) S = .ok (.str (tx [c])) S := by
  show Hf.iStr (.str (tx row)) (.int (n : Nat)) S = _
  unfold Hf.iStr
  show Option.go (atI row (n : Int)) _ = _
  rw [atN, hc]
  show (if szOk (tx row).length = true then _ else _) = _
  rw [tx_len, if_pos (szOk_to h)]
theorem iSeq_lst (h : At S a (.lst xs)) (hv : atI xs i = some v) : iSeq (.ref a) (.int i) S = .ok v S := by
  show (Option.go (lstAt S a) _).or _ = _
  rw [h.lstAt]
  show (Option.go (atI xs i) _).or _ = _
  rw [hv]
  rfl
theorem iSeq_tup (h : At S a (.tup xs)) (hv : atI xs i = some v) : iSeq (.ref a) (.int i) S = .ok v S := by
  show (Option.go (lstAt S a) _).or ((Option.go (tupAt S a) _).or _) = _
  rw [h.tup_lst, h.tupAt]
  show (Option.go (atI xs i) _).or _ = _
  rw [hv]
  rfl
theorem bLen_tx (h : row.length ≤ sizeLine) : bLen [.str (tx row)] S = .ok (.int row.length) S := by
  show Option.go (if szOk (tx row).length = true then _ else _) _ = _
  rw [tx_len, if_pos (szOk_to h)]
  rfl
theorem bLen_seq (h : seqAt S a = some xs) : bLen [.ref a] S = .ok (.int xs.length) S := by
  show Option.go ((seqAt S a).map _) _ = _
  rw [h]
  rfl
theorem oIn_tx : oIn (.str (tx [c])) (.str (tx sg)) S = .ok (.bl (decide (c ∈ sg))) S := by
  show (Res.ok (V.bl (strIn (tx [c]) (tx sg))) S).or _ = _
  rw [strIn_tx]
  rfl
theorem oIn_seq {x : V} (h : seqAt S a = some xs) (hf : flatV x = true) (hfs : xs.all flatV = true) : oIn x (.ref a) S = .ok (.bl (inV x xs)) S := by
  have e : oInS x (.ref a) S = .no := by cases x <;> rfl
  show (oInS x (.ref a) S).or ((Option.go (seqAt S a) _).or _) = _
  rw [e, h]
  show ((if flatV x = true ∧ xs.all flatV = true then _ else _ : Res V).or _) = _
  rw [if_pos ⟨hf, hfs⟩]
  rfl
theorem oEq_tx {x y : Str} : oEq (.str x) (.str y) S = .ok (.bl (decide (x = y))) S := by
  show Res.or (if scal (.str x) (.str y) = true then _ else _) _ = _
  rw [if_pos (by rfl)]
  show Res.ok (V.bl (decide (V.str x = V.str y))) S = _
  rw [show decide (V.str x = V.str y) = decide (x = y) from decide_eq_decide.mpr ⟨fun e => by cases e; rfl, fun e => e ▸ rfl⟩]
theorem oNe_tx {x y : Str} : oNe (.str x) (.str y) S = .ok (.bl (!decide (x = y))) S := by
  show Res.or (if scal (.str x) (.str y) = true then _ else _) _ = _
  rw [if_pos (by rfl)]
  show Res.ok (V.bl (!decide (V.str x = V.str y))) S = _
  rw [show decide (V.str x = V.str y) = decide (x = y) from decide_eq_decide.mpr ⟨fun e => by cases e; rfl, fun e => e ▸ rfl⟩]
theorem oEq_int {i j : Int} : oEq (.int i) (.int j) S = .ok (.bl (decide (i = j))) S := by
  show Res.or (if scal (.int i) (.int j) = true then _ else _) _ = _
  rw [if_pos (by rfl)]
  show Res.ok (V.bl (decide (V.int i = V.int j))) S = _
  rw [show decide (V.int i = V.int j) = decide (i = j) from decide_eq_decide.mpr ⟨fun e => by cases e; rfl, fun e => e ▸ rfl⟩]
theorem oIsN_eq {x : V} : oIsN x .non S = .ok (.bl (vNon x)) S := rfl
theorem cSeq_tx {x y : Nat} (h : row.length ≤ sizeLine) (h1 : x ≤ y) (h2 : y ≤ row.length) : cSeq (.str (tx row)) (some (x : Int)) (some (y : Int)) S = .ok (.str (tx ((row.drop x).take (y - x)))) S := by
  show (if szOk (tx row).length = true then _ else _) = _
  rw [tx_len, if_pos (szOk_to h), cut_nat _ _ _ h1 h2]
theorem mStart_tx {x : Nat} (h : x ≤ row.length) : mStart (.str (tx row)) [.str (tx sg), .int (x : Nat)] S = .ok (.bl (sg.isPrefixOf (row.drop x))) S := by
  show Res.ok (V.bl (Txt.startswith3 (tx row) (tx sg) (x : Int))) S = _
  rw [starts3_nat _ _ _ h]
theorem mAppend_at (h : At S a (.lst xs)) (hl : xs.length < sizeLine) : mAppend (.ref a) [v] S = .ok .non (S.set a (.lst (xs ++ [v]))) := by
  show Option.go (Hf.mutAt S a) _ = _
  rw [h.mutAt]
  show (if szOk (xs.length + 1) = true then _ else _) = _
  rw [if_pos (szOk_to hl)]
  rfl
theorem isTy_lst (h : At S a (.lst xs)) : isTy "list" (.ref a) S = true := by
  unfold isTy
  simp [h.get]
theorem oAddI_int {j : Int} : oAddI (.int i) (.int j) S = .ok (.int (i + j)) S := rfl
theorem eK_at {j k : Nat} {σ : St} (h : At S j (.ktup k xs)) : eK j k σ S = .ok (.ref j) S := by
  unfold eK
  rw [h.get]
  exact if_pos rfl
theorem At.seqK {k : Nat} (h : At S a (.ktup k xs)) : seqAt S a = some xs := by unfold seqAt; rw [h.get]
theorem At.tupK {k : Nat} (h : At S a (.ktup k xs)) : Hf.tupAt S a = some xs := by unfold Hf.tupAt; rw [h.get]
theorem drop_get {row l : List Nat} {a : Nat} (h : row.drop a = l) (i : Nat) : row[a + i]? = l[i]? := by rw [← h, List.getElem?_drop]
theorem inV_tx {w : List Nat} {ws : List (List Nat)} : inV (.str (tx w)) (ws.map fun x => V.str (tx x)) = decide (w ∈ ws) := by
  rw [Bool.eq_iff_iff, decide_eq_true_eq]
  have e : ∀ x, eqV (.str (tx x)) (.str (tx w)) = true ↔ x = w := fun x => by
    show decide _ = true ↔ _
    rw [decide_eq_true_eq]
    exact ⟨fun e => tx_inj (by simpa using e), fun e => by rw [e]⟩
  simp [inV, e]
theorem flat_txs (ws : List (List Nat)) : (ws.map fun x => V.str (tx x)).all flatV = true := by
  induction ws with
  | nil => rfl
  | cons w ws ih => exact ih
theorem oIn_txs {w : List Nat} {ws : List (List Nat)} (h : seqAt S a = some (ws.map fun x => V.str (tx x))) : oIn (.str (tx w)) (.ref a) S = .ok (.bl (decide (w ∈ ws))) S := by
  rw [oIn_seq h rfl (flat_txs ws), inV_tx]
theorem runIf_true {α : Type} {u v : α} : (match true with | true => u | false => v) = u := rfl
theorem runIf_false {α : Type} {u v : α} : (match false with | true => u | false => v) = v := rfl
theorem wkn_tup {x : V} (h : Hf.tupAt S a = some xs) (hx : xs[n]? = some x) : wkNext (.tup a) n S = some (some (x, S)) := by
  show nextOf (Hf.tupAt S a) n _ = _
  rw [h]
  show (match xs[n]? with | some x => some (some (x, S)) | none => some none) = _
  rw [hx]
theorem wk_tup0 (h : Hf.tupAt S a = some xs) (hx : xs.length ≤ n) : wkNext (.tup a) n S = some none := by
  show nextOf (Hf.tupAt S a) n _ = _
  rw [h]
  show (match xs[n]? with | some x => some (some (x, S)) | none => some none) = _
  rw [List.getElem?_eq_none hx]
theorem wkn_seq {x : V} (h : lstAt S a = some xs) (hx : xs[n]? = some x) : wkNext (.seq a) n S = some (some (x, S)) := by
  show nextOf (Hf.lstAt S a) n _ = _
  rw [h]
  show (match xs[n]? with | some x => some (some (x, S)) | none => some none) = _
  rw [hx]
theorem wk_seq0 (h : lstAt S a = some xs) (hx : xs.length ≤ n) : wkNext (.seq a) n S = some none := by
  show nextOf (Hf.lstAt S a) n _ = _
  rw [h]
  show (match xs[n]? with | some x => some (some (x, S)) | none => some none) = _
  rw [List.getElem?_eq_none hx]
theorem wkn_enm {x : V} (h : lstAt S a = some xs) (hx : xs[n]? = some x) : wkNext (.enm a) n S = some (some (.ref S.n, S.push (.tup [.int n, x]))) := by
  show nextOf (Hf.lstAt S a) n _ = _
  rw [h]
  show (match xs[n]? with | some x => some (some (V.ref S.n, S.push (.tup [.int n, x]))) | none => some none) = _
  rw [hx]
theorem wk_enm0 (h : lstAt S a = some xs) (hx : xs.length ≤ n) : wkNext (.enm a) n S = some none := by
  show nextOf (Hf.lstAt S a) n _ = _
  rw [h]
  show (match xs[n]? with | some x => some (some (V.ref S.n, S.push (.tup [.int n, x]))) | none => some none) = _
  rw [List.getElem?_eq_none hx]
theorem wkn_rng {lo : Int} {k : Nat} (h : n < k) : wkNext (.rng lo k) n S = some (some (.int (lo + n), S)) := if_pos h
theorem wk_rng0 {lo : Int} {k : Nat} (h : ¬ n < k) : wkNext (.rng lo k) n S = some none := if_neg h
theorem unT {r : List V → St → Sto → Res St} {σ : St} (h : At S a (.tup xs)) (hn : xs.length = n) : tgUn n r (.ref a) σ S = r xs σ S := by
  show (match Hf.tupAt S a with | some _ => tgTup n r (.ref a) σ S | none => tgLst n r (.ref a) σ S) = _
  rw [h.tupAt]
  show (match Hf.tupAt S a with | some xs => if xs.length = n then r xs σ S else .no | none => .no) = _
  rw [h.tupAt]
  exact if_pos hn
theorem unL {r : List V → St → Sto → Res St} {σ : St} (h : At S a (.lst xs)) (hn : xs.length = n) : tgUn n r (.ref a) σ S = r xs σ S := by
  show (match Hf.tupAt S a with | some _ => tgTup n r (.ref a) σ S | none => tgLst n r (.ref a) σ S) = _
  rw [h.lst_tup]
  show (match Hf.lstAt S a with | some xs => if xs.length = n then r xs σ S else .no | none => .no) = _
  rw [h.lstAt]
  exact if_pos hn
theorem lc_runR {w : Wk} {t : V → St → Sto → Res St} {tt : MT} {ge : ME} {D : Nat} (N : Nat) {σ : St} {J : Nat → Sto → Prop} {qu : Unit → Sto → Prop}
    (hJ : ∀ i S, i < N → J i S → ∃ x S1, wkNext w i S = some (some (x, S1)) ∧ Run (t x σ S1) fun σ2 S2 => Run (tt σ2 S2) fun b S3 => b = true ∧ Run (ge σ2 S3) fun y S4 => ∃ acc, At S4 D (.lst acc) ∧ acc.length < sizeLine ∧ J (i + 1) (S4.set D (.lst (acc ++ [y]))))
    (h0 : ∀ S, J N S → wkNext w N S = some none ∧ qu () S) :
    ∀ (fuel i : Nat) (S : Sto), J i S → i ≤ N → N < fuel + i → Run (lcL w t tt ge D fuel i σ S) qu
  | 0, i, S, j, hi, hf => absurd hf (by omega)
  | fuel + 1, i, S, j, hi, hf => by
    unfold lcL
    by_cases e : i = N
    · subst e
      obtain ⟨e1, q⟩ := h0 S j
      rw [e1]
      exact q
    · obtain ⟨x, S1, e1, q⟩ := hJ i S (by omega) j
      rw [e1]
      show Run (Res.bind _ _) _
      rw [run_bind, run_noEx]
      refine q.imp fun σ2 S2 z => ?_
      rw [run_bind, run_noEx]
      refine z.imp fun b S3 z => ?_
      obtain ⟨rfl, z⟩ := z
      show Run (Res.bind _ _) _
      rw [run_bind, run_noEx]
      refine z.imp fun y S4 z => ?_
      obtain ⟨acc, h1, h2, h3⟩ := z
      rw [h1.mutAt]
      show Run (if szOk (acc.length + 1) = true then _ else _) _
      rw [if_pos (szOk_to h2)]
      exact lc_runR N hJ h0 fuel (i + 1) _ h3 (by omega) (by omega)
theorem mExtend_at {b : Nat} (h : At S a (.lst xs)) (h2 : At S b (.lst ys)) (hl : xs.length + ys.length ≤ sizeLine) : mExtend (.ref a) [.ref b] S = .ok .non (S.set a (.lst (xs ++ ys))) := by
  show Option.go (Hf.mutAt S a) _ = _
  rw [h.mutAt]
  show Option.go (Hf.mutAt S b) _ = _
  rw [h2.mutAt]
  show (if szOk (xs.length + ys.length) = true then _ else _) = _
  rw [if_pos (szOk_to hl)]
  rfl
theorem mReverse_at (h : At S a (.lst xs)) : mReverse (.ref a) [] S = .ok .non (S.set a (.lst xs.reverse)) := by
  show Option.go (Hf.mutAt S a) _ = _
  rw [h.mutAt]
  rfl
theorem stLst_at {k : Int} {j : Nat} (h : At S a (.lst xs)) (hk : L2.ixN xs.length k = some j) : stLst (.ref a) (.int k) v S = .ok () (S.set a (.lst (xs.set j v))) := by
  show Option.go (Hf.mutAt S a) _ = _
  rw [h.mutAt]
  show Option.go (L2.ixN xs.length k) _ = _
  rw [hk]
  rfl
theorem oCat_at {b : Nat} (h : At S a (.lst xs)) (h2 : At S b (.lst ys)) : oAdd (.ref a) (.ref b) S = newL (xs ++ ys) S := by
  show Option.go (Hf.mutAt S a) _ = _
  rw [h.mutAt]
  show Option.go (Hf.mutAt S b) _ = _
  rw [h2.mutAt]
  rfl
theorem bList_at (h : seqAt S a = some xs) : bList [.ref a] S = newL xs S := by
  show Option.go (seqAt S a) _ = _
  rw [h]
  rfl
theorem mul_ok {i j : Int} (h1 : -(2 ^ 2100) < i) (h2 : i < 2 ^ 2100) (h3 : -(2 ^ 2100) < j) (h4 : j < 2 ^ 2100) : oMul (.int i) (.int j) S = .ok (.int (i * j)) S :=
  oMul_int (cMulW_of (p := 2100) (q := 2100) (by omega) (by omega) (by decide) (by decide) (by decide))
theorem atI_in {xs : List V} {i : Int} (h0 : 0 ≤ i) (h1 : i < xs.length) : ∃ x, L2.atI xs i = some x ∧ x ∈ xs := by
  obtain ⟨n, rfl⟩ := Int.eq_ofNat_of_zero_le h0
  rw [show L2.atI xs ((n : Nat) : Int) = xs[n]? from atN, List.getElem?_eq_getElem (by omega)]
  exact ⟨_, rfl, List.getElem_mem _⟩
theorem pick {ws : List (List Nat)} {i : Int} (h0 : 0 ≤ i) (h1 : i < ws.length) : ∃ w, w ∈ ws ∧ L2.atI (ws.map fun x => V.str (tx x)) i = some (.str (tx w)) := by
  obtain ⟨x, e, hx⟩ := atI_in (xs := ws.map fun x => V.str (tx x)) h0 (by rw [List.length_map]; exact h1)
  obtain ⟨w, hw, rfl⟩ := List.mem_map.mp hx
  exact ⟨w, hw, e⟩
theorem isTy_str {x : Str} : isTy "str" (.str x) S = true := rfl
theorem mapO_txs (ws : List (List Nat)) : mapO vStr (ws.map fun x => V.str (tx x)) = some (ws.map tx) := by
  induction ws with
  | nil => rfl
  | cons w ws ih =>
    simp only [List.map_cons, mapO, ih, vStr]
theorem mJoin_nil {ws : List (List Nat)} (h : seqAt S a = some (ws.map fun x => V.str (tx x))) (hl : ws.flatten.length ≤ 16777216) : mJoin (.str (tx [])) [.ref a] S = .ok (.str (tx ws.flatten)) S := by
  show Option.go (seqAt S a) _ = _
  rw [h]
  show Option.go (mapO vStr _) _ = _
  rw [mapO_txs]
  show (if ((ws.map tx).map (·.length)).sum + (ws.map tx).length * (tx []).length ≤ 16777216 then Res.ok (V.str (Txt.join (tx []) (ws.map tx))) S else _) = _
  have e : ((ws.map tx).map (·.length)).sum = ws.flatten.length := by
    rw [List.length_flatten, List.map_map]
    congr 1
  have e2 : (tx []).length = 0 := rfl
  rw [e, e2, Nat.mul_zero, Nat.add_zero, if_pos hl, join_nil]
theorem rngOk_to (h1 : -(2 ^ 62) ≤ i) (h2 : i < 2 ^ 62) : rngOk i = true := by
  unfold rngOk
  rw [decide_eq_true h1, decide_eq_true h2]
  rfl
section
variable {x y z : V} {j k : Nat} {σ : St} {i : Nat}
theorem un2L (h : At S a (.lst [x, y])) : tgUn 2 (fun vs σ S => noEx (tgCons (tgName i) (fun vs σ S => noEx (tgCons (tgName j) tgNil vs σ S)) vs σ S)) (.ref a) σ S = .ok ((σ.set i (some x)).set j (some y)) S := by
  rw [unL (n := 2) h rfl]
  rfl
theorem un2T (h : At S a (.tup [x, y])) : tgUn 2 (fun vs σ S => noEx (tgCons (tgName i) (fun vs σ S => noEx (tgCons (tgName j) tgNil vs σ S)) vs σ S)) (.ref a) σ S = .ok ((σ.set i (some x)).set j (some y)) S := by
  rw [unT (n := 2) h rfl]
  rfl
theorem un3L (h : At S a (.lst [x, y, z])) : tgUn 3 (fun vs σ S => noEx (tgCons (tgName i) (fun vs σ S => noEx (tgCons (tgName j) (fun vs σ S => noEx (tgCons (tgName k) tgNil vs σ S)) vs σ S)) vs σ S)) (.ref a) σ S = .ok (((σ.set i (some x)).set j (some y)).set k (some z)) S := by
  rw [unL (n := 3) h rfl]
  rfl
theorem un3T (h : At S a (.tup [x, y, z])) : tgUn 3 (fun vs σ S => noEx (tgCons (tgName i) (fun vs σ S => noEx (tgCons (tgName j) (fun vs σ S => noEx (tgCons (tgName k) tgNil vs σ S)) vs σ S)) vs σ S)) (.ref a) σ S = .ok (((σ.set i (some x)).set j (some y)).set k (some z)) S := by
  rw [unT (n := 3) h rfl]
  rfl
end
end
end Hf

/-! Sim: values as data, for == and in. -/
namespace Hf
open PySem PySem.Spec
open L2 (V St)
theorem dat_str {n : Nat} {S : Sto} {x : Str} : dat n S (.str x) = some (.str x) := by cases n <;> rfl
theorem dat_int {n : Nat} {S : Sto} {i : Int} : dat n S (.int i) = some (.int i) := by cases n <;> rfl
theorem dat_non {n : Nat} {S : Sto} : dat n S .non = some .none := by cases n <;> rfl
theorem dat_bl {n : Nat} {S : Sto} {b : Bool} : dat n S (.bl b) = some (.bool b) := by cases n <;> rfl
theorem dat_seqL {n a : Nat} {S : Sto} {xs : List V} {ds : List PyData} (h : lstAt S a = some xs) (h2 : mapO (dat n S) xs = some ds) : dat (n + 1) S (.ref a) = some (.list ds) := by
  show (match lstAt S a with | some xs => (mapO (dat n S) xs).map PyData.list | none => _) = _
  rw [h]
  show (mapO (dat n S) xs).map PyData.list = _
  rw [h2]
  rfl
theorem dat_lst {n a : Nat} {S : Sto} {xs : List V} {ds : List PyData} (h : At S a (.lst xs)) (h2 : mapO (dat n S) xs = some ds) : dat (n + 1) S (.ref a) = some (.list ds) := dat_seqL h.lstAt h2
theorem dat_seqT {n a : Nat} {S : Sto} {xs : List V} {ds : List PyData} (h0 : lstAt S a = none) (h : tupAt S a = some xs) (h2 : mapO (dat n S) xs = some ds) : dat (n + 1) S (.ref a) = some (.tuple ds) := by
  show (match lstAt S a with | some xs => _ | none => (match tupAt S a with | some xs => (mapO (dat n S) xs).map PyData.tuple | none => none)) = _
  rw [h0]
  show (match tupAt S a with | some xs => (mapO (dat n S) xs).map PyData.tuple | none => none) = _
  rw [h]
  show (mapO (dat n S) xs).map PyData.tuple = _
  rw [h2]
  rfl
theorem dat_tup {n a : Nat} {S : Sto} {xs : List V} {ds : List PyData} (h : At S a (.tup xs)) (h2 : mapO (dat n S) xs = some ds) : dat (n + 1) S (.ref a) = some (.tuple ds) := dat_seqT h.tup_lst h.tupAt h2
theorem mapO_nil {α β : Type} {f : α → Option β} : mapO f [] = some [] := rfl
theorem mapO_cons {α β : Type} {f : α → Option β} {x : α} {xs : List α} {y : β} {ys : List β} (h : f x = some y) (h2 : mapO f xs = some ys) : mapO f (x :: xs) = some (y :: ys) := by
  unfold mapO
  rw [h]
  show (match mapO f xs with | some ys => some (y :: ys) | none => none) = _
  rw [h2]
/-- d can be laid, its depth is at most k -/
def Sh (k : Nat) (d : PyData) : Prop := d.canLay0 = true ∧ d.depth ≤ k
theorem Sh.shaped {k : Nat} {d : PyData} (h : Sh k d) (hk : k ≤ 64) : SeqAt.shaped d = true := by
  unfold SeqAt.shaped
  rw [h.1, decide_eq_true (Nat.le_trans h.2 hk)]
  rfl
theorem sh_int {i : Int} : Sh 0 (.int i) := ⟨rfl, Nat.le_refl _⟩
theorem sh_none : Sh 0 .none := ⟨rfl, Nat.le_refl _⟩
theorem sh_bool {b : Bool} : Sh 0 (.bool b) := ⟨rfl, Nat.le_refl _⟩
theorem sh_str {x : Str} (h : x.cps.all (· < 0x110000) = true) : Sh 0 (.str x) := ⟨h, Nat.le_refl _⟩
theorem sh_tx {w : List Nat} (h : ∀ c ∈ w, c < 128) : Sh 0 (.str (tx w)) := sh_str (by
  simp only [List.all_toArray, List.all_eq_true, decide_eq_true_eq]
  exact fun c hc => Nat.lt_of_lt_of_le (h c hc) (by decide))
theorem Sh.mono {k k' : Nat} {d : PyData} (h : Sh k d) (l : k ≤ k') : Sh k' d := ⟨h.1, Nat.le_trans h.2 l⟩
theorem sh_all {k : Nat} : ∀ {ds : List PyData}, (∀ d ∈ ds, Sh k d) → PyData.canLayAll0 ds = true ∧ PyData.depthAll ds ≤ k
  | [], _ => ⟨rfl, Nat.zero_le _⟩
  | d :: ds, h => by
    have a := h d (List.mem_cons_self ..)
    have b := sh_all fun e he => h e (List.mem_cons_of_mem _ he)
    refine ⟨?_, ?_⟩
    · show (PyData.canLay0 d && PyData.canLayAll0 ds) = true
      rw [a.1, b.1]
      rfl
    · show max (PyData.depth d) (PyData.depthAll ds) ≤ k
      exact Nat.max_le.mpr ⟨a.2, b.2⟩
theorem sh_list {k : Nat} {ds : List PyData} (h : ∀ d ∈ ds, Sh k d) : Sh (k + 1) (.list ds) := ⟨(sh_all h).1, Nat.succ_le_succ (sh_all h).2⟩
theorem sh_tuple {k : Nat} {ds : List PyData} (h : ∀ d ∈ ds, Sh k d) : Sh (k + 1) (.tuple ds) := ⟨(sh_all h).1, Nat.succ_le_succ (sh_all h).2⟩
theorem Sh.refl {k : Nat} {d : PyData} (h : Sh k d) : PyData.eqv d d = true := SeqAt.eqv_refl d h.1
section
variable {S : Sto} {x y : V} {d e : PyData} {k : Nat}
/-- two of the same data are not unequal -/
theorem oNeD_same (h1 : dat DEPTH S x = some d) (h2 : dat DEPTH S y = some d) (hs : Sh k d) (hk : k ≤ 64) (a : Nat) (hx : x = .ref a) : oNe x y S = .ok (.bl false) S := by
  have e0 : oNeS x y S = .no := by
    subst hx
    cases y <;> rfl
  show (oNeS x y S).or (oNeD x y S) = _
  rw [e0]
  show Option.go (dat DEPTH S x) _ = _
  rw [h1]
  show Option.go (dat DEPTH S y) _ = _
  rw [h2]
  show (if SeqAt.shaped d = true ∧ SeqAt.shaped d = true then _ else _) = _
  rw [if_pos ⟨hs.shaped hk, hs.shaped hk⟩, hs.refl]
  rfl
theorem oNotInD_eq {ds : List PyData} (h1 : dat DEPTH S x = some d) (h2 : dat DEPTH S y = some (.list ds)) (hs : Sh k d) (hs2 : Sh k (.list ds)) (hk : k ≤ 64) (a : Nat) (hx : x = .ref a) :
    oNotIn x y S = .ok (.bl (!ds.any fun z => PyData.eqv z d)) S := by
  have e0 : oNotInS x y S = .no := by
    subst hx
    rfl
  have e1 : oInF true x y S = .no := by
    subst hx
    show Option.go (vRef y) _ = _
    cases vRef y with
    | none => rfl
    | some b =>
      show Option.go (seqAt S b) _ = _
      cases seqAt S b with
      | none => rfl
      | some xs =>
        have e : ¬ (L2.flatV (.ref a) = true ∧ xs.all L2.flatV = true) := fun h => by
          have := h.1
          cases this
        simp only [Option.go, e, if_false]
  show (oNotInS x y S).or ((oInF true x y S).or (oInD true x y S)) = _
  rw [e0, e1]
  show Option.go (dat DEPTH S x) _ = _
  rw [h1]
  show Option.go (dat DEPTH S y) _ = _
  rw [h2]
  show (if SeqAt.shaped d = true ∧ SeqAt.shaped (.list ds) = true then _ else _) = _
  rw [if_pos ⟨hs.shaped hk, hs2.shaped hk⟩]
  rfl
theorem oNotIn_txs {w : List Nat} {ws : List (List Nat)} {a : Nat} (h : seqAt S a = some (ws.map fun x => V.str (tx x))) : oNotIn (.str (tx w)) (.ref a) S = .ok (.bl (!decide (w ∈ ws))) S := by
  show (oNotInS (.str (tx w)) (.ref a) S).or ((Option.go (seqAt S a) _).or _) = _
  have e : oNotInS (.str (tx w)) (.ref a) S = .no := rfl
  rw [e, h]
  show ((if L2.flatV (.str (tx w)) = true ∧ (ws.map fun x => V.str (tx x)).all L2.flatV = true then _ else _ : Res V).or _) = _
  rw [if_pos ⟨rfl, flat_txs ws⟩, inV_tx]
  rfl
end
end Hf

set_option maxHeartbeats 4000000
namespace K01
open PySem PySem.Spec L2 Hf
/-! ### the text by places -/
def top (i : Nat) : Stmt := PySem.Challenge.pw_holefills_k01_lexemes.main.body.getD i (.Pass ⟨0, 0, 0, 0⟩)
abbrev s_run_end : Stmt := top 10
abbrev N_run_end : List Str := ["row", "at", "signs", "most", "end"]
abbrev P_run_end : List Str := ["row", "at", "signs", "most"]
theorem sc_run_end : FnScope N_run_end P_run_end (defScope s_run_end) := ⟨rfl, rfl, rfl, by decide +kernel, rfl, by decide +kernel, by decide +kernel⟩
abbrev s_law_mixed : Stmt := top 15
abbrev N_law_mixed : List Str := ["cell", "k", "number"]
abbrev P_law_mixed : List Str := ["cell", "k"]
theorem sc_law_mixed : FnScope N_law_mixed P_law_mixed (defScope s_law_mixed) := ⟨rfl, rfl, rfl, by decide +kernel, rfl, by decide +kernel, by decide +kernel⟩
abbrev s_law_at : Stmt := top 18
abbrev N_law_at : List Str := ["script", "k"]
abbrev P_law_at : List Str := ["script", "k"]
theorem sc_law_at : FnScope N_law_at P_law_at (defScope s_law_at) := ⟨rfl, rfl, rfl, by decide +kernel, rfl, by decide +kernel, by decide +kernel⟩
abbrev s_law_words : Stmt := top 20
abbrev N_law_words : List Str := []
abbrev P_law_words : List Str := []
theorem sc_law_words : FnScope N_law_words P_law_words (defScope s_law_words) := ⟨rfl, rfl, rfl, by decide +kernel, rfl, by decide +kernel, by decide +kernel⟩
abbrev s_law_grow : Stmt := top 22
abbrev N_law_grow : List Str := []
abbrev P_law_grow : List Str := []
theorem sc_law_grow : FnScope N_law_grow P_law_grow (defScope s_law_grow) := ⟨rfl, rfl, rfl, by decide +kernel, rfl, by decide +kernel, by decide +kernel⟩
abbrev s_lexeme_end : Stmt := top 11
abbrev N_lexeme_end : List Str := ["row", "at", "end", "sign"]
abbrev P_lexeme_end : List Str := ["row", "at"]
theorem sc_lexeme_end : FnScope N_lexeme_end P_lexeme_end (defScope s_lexeme_end) := ⟨rfl, rfl, rfl, by decide +kernel, rfl, by decide +kernel, by decide +kernel⟩
abbrev s_law_purse : Stmt := top 16
abbrev N_law_purse : List Str := ["cell", "k"]
abbrev P_law_purse : List Str := ["cell", "k"]
theorem sc_law_purse : FnScope N_law_purse P_law_purse (defScope s_law_purse) := ⟨rfl, rfl, rfl, by decide +kernel, rfl, by decide +kernel, by decide +kernel⟩
abbrev s_law_take : Stmt := top 17
abbrev N_law_take : List Str := ["purse", "steps", "got"]
abbrev P_law_take : List Str := ["purse", "steps"]
theorem sc_law_take : FnScope N_law_take P_law_take (defScope s_law_take) := ⟨rfl, rfl, rfl, by decide +kernel, rfl, by decide +kernel, by decide +kernel⟩
abbrev s_law_touches : Stmt := top 21
abbrev N_law_touches : List Str := ["sort", "word", "last", "both"]
abbrev P_law_touches : List Str := ["sort", "word", "last"]
theorem sc_law_touches : FnScope N_law_touches P_law_touches (defScope s_law_touches) := ⟨rfl, rfl, rfl, by decide +kernel, rfl, by decide +kernel, by decide +kernel⟩
abbrev s_row_lexemes : Stmt := top 12
abbrev N_row_lexemes : List Str := ["row", "number", "found", "at", "sort", "end"]
abbrev P_row_lexemes : List Str := ["row", "number"]
theorem sc_row_lexemes : FnScope N_row_lexemes P_row_lexemes (defScope s_row_lexemes) := ⟨rfl, rfl, rfl, by decide +kernel, rfl, by decide +kernel, by decide +kernel⟩
abbrev s_law_word : Stmt := top 19
abbrev N_law_word : List Str := ["purse", "way", "small", "sign", "stem", "k"]
abbrev P_law_word : List Str := ["purse"]
theorem sc_law_word : FnScope N_law_word P_law_word (defScope s_law_word) := ⟨rfl, rfl, rfl, by decide +kernel, rfl, by decide +kernel, by decide +kernel⟩
abbrev s_lexemes : Stmt := top 13
abbrev N_lexemes : List Str := ["text", "found", "number", "row"]
abbrev P_lexemes : List Str := ["text"]
theorem sc_lexemes : FnScope N_lexemes P_lexemes (defScope s_lexemes) := ⟨rfl, rfl, rfl, by decide +kernel, rfl, by decide +kernel, by decide +kernel⟩
abbrev s_law_row : Stmt := top 23
abbrev N_law_row : List Str := ["purse", "number", "steps", "line", "found", "last", "k", "sort", "word"]
abbrev P_law_row : List Str := ["purse", "number", "steps"]
theorem sc_law_row : FnScope N_law_row P_law_row (defScope s_law_row) := ⟨rfl, rfl, rfl, by decide +kernel, rfl, by decide +kernel, by decide +kernel⟩
abbrev s_law_rows : Stmt := top 24
abbrev N_law_rows : List Str := ["purse", "steps", "lines", "found", "number", "line", "more"]
abbrev P_law_rows : List Str := ["purse", "steps"]
theorem sc_law_rows : FnScope N_law_rows P_law_rows (defScope s_law_rows) := ⟨rfl, rfl, rfl, by decide +kernel, rfl, by decide +kernel, by decide +kernel⟩
abbrev s_law : Stmt := top 25
abbrev N_law : List Str := ["script", "cell", "purse", "lines", "due", "place", "sort", "said", "handed", "turn", "told"]
abbrev P_law : List Str := ["script"]
theorem sc_law : FnScope N_law P_law (defScope s_law) := ⟨rfl, rfl, rfl, by decide +kernel, rfl, by decide +kernel, by decide +kernel⟩
/-! ### what the defs do -/
def FUEL : Nat := 100000
def k_FIGURES : Str := "0123456789"
def k_GREAT : Str := "ABCDEFGHIJKLMNOPQRSTUVWXYZ"
def k_SIGNS : List V := [.str "->", .str "==", .str "=", .str "|", .str "(", .str ")", .str "+", .str "-", .str "*", .str "<", .str "_"]
def k_SMALL : Str := "abcdefghijklmnopqrstuvwxyz"
def k_WORDS : List V := [.str "data", .str "let", .str "in", .str "if", .str "then", .str "else", .str "case", .str "of", .str "fun"]
def m_run_end : MS := (mSeq (mSet 4 (eVar 1))
    (mSeq (whileL (gAnd (gTest (gBin oLt (eVar 4) (gCb bLen (aCons (eVar 0) aNil)))) (gAnd (gTest (gBin oIn (gBin iSeq (eVar 0) (eVar 4)) (eVar 2))) (gOr (gTest (gBin oIsN (eVar 3) (eC .non))) (gTest (gBin oLt (eVar 4) (gBin oAdd (eVar 1) (eVar 3)))))))
    (mAug 4 oAddI (eC (.int 1))) FUEL)
    (mRet (eVar 4))))
def f_run_end : List V → Sto → Res V := bodyF N_run_end m_run_end
def m_law_mixed : MS := (mSeq (mSet 2 (gBin oAdd (gBin oAdd (gBin oMul (gBin oAdd (gBin oModI (eVar 0) (gBin oAdd (gBin oPowI (eC (.int 10)) (eC (.int 18))) (eC (.int 9)))) (gBin oMul (eC (.int 7)) (eVar 1))) (eC (.int 739108512309184756019283746561))) (gBin oMul (eC (.int 7919)) (eVar 1))) (eC (.int 1))))
    (mSeq (mSet 2 (gBin oModI (gBin oMul (eVar 2) (eVar 2)) (gBin oAdd (gBin oPowI (eC (.int 10)) (eC (.int 60))) (eC (.int 7)))))
    (mRet (gBin oModI (gBin oMul (gBin oAdd (eVar 2) (eC (.int 40503))) (gBin oAdd (eVar 2) (eC (.int 57)))) (gBin oAdd (gBin oPowI (eC (.int 10)) (eC (.int 60))) (eC (.int 7)))))))
def f_law_mixed : List V → Sto → Res V := bodyF N_law_mixed m_law_mixed
def m_law_at : MS := (mSeq (mIf (gTest (gBin oLt (eVar 1) (gCb bLen (aCons (eVar 0) aNil))))
    (mRet (gBin iSeq (eVar 0) (eVar 1)))
    mNext)
    (mRet (gBin oAdd (gBin oMul (eC (.int 3)) (eVar 1)) (eC (.int 1)))))
def f_law_at : List V → Sto → Res V := bodyF N_law_at m_law_at
def m_law_words : MS := (mRet (gLst (aCons (eC (.str "data")) (aCons (eC (.str "let")) (aCons (eC (.str "in")) (aCons (eC (.str "if")) (aCons (eC (.str "then")) (aCons (eC (.str "else")) (aCons (eC (.str "case")) (aCons (eC (.str "of")) (aCons (eC (.str "fun")) aNil)))))))))))
def f_law_words : List V → Sto → Res V := bodyF N_law_words m_law_words
def m_law_grow : MS := (mRet (gLst (aCons (gLst (aCons (eC (.str "-")) (aCons (eC (.str ">")) aNil))) (aCons (gLst (aCons (eC (.str "=")) (aCons (eC (.str "=")) aNil))) (aCons (gLst (aCons (eC (.str "-")) (aCons (eC (.str "-")) aNil))) (aCons (gLst (aCons (eC (.str "<")) (aCons (eC (.str "-")) aNil))) (aCons (gLst (aCons (eC (.str "=")) (aCons (eC (.str "-")) aNil))) (aCons (gLst (aCons (eC (.str "*")) (aCons (eC (.str "-")) aNil))) (aCons (gLst (aCons (eC (.str "+")) (aCons (eC (.str "-")) aNil))) (aCons (gLst (aCons (eC (.str "|")) (aCons (eC (.str "-")) aNil))) (aCons (gLst (aCons (eC (.str "(")) (aCons (eC (.str "-")) aNil))) aNil)))))))))))
def f_law_grow : List V → Sto → Res V := bodyF N_law_grow m_law_grow
def m_lexeme_end : MS := (mSeq (mIf (gTest (gBin oIn (gBin iSeq (eVar 0) (eVar 1)) (eC (.str k_SMALL))))
    (mSeq (mSet 2 (gCall 4 f_run_end (aCons (eVar 0) (aCons (eVar 1) (aCons (eC (.str k_SMALL)) (aCons (eC (.int 8)) aNil))))))
    (mRet (gTup (aCons (gIfE (gTest (gBin oIn (gSl cSeq (eVar 0) (pSome (eVar 1)) (pSome (eVar 2))) (eK 1 0))) (eC (.str "word")) (eC (.str "name"))) (aCons (eVar 2) aNil)))))
    mNext)
    (mSeq (mIf (gTest (gBin oIn (gBin iSeq (eVar 0) (eVar 1)) (eC (.str k_GREAT))))
    (mRet (gTup (aCons (eC (.str "maker")) (aCons (gCall 4 f_run_end (aCons (eVar 0) (aCons (gBin oAdd (eVar 1) (eC (.int 1))) (aCons (eC (.str k_SMALL)) (aCons (gBin oSubI (eC (.int 8)) (eC (.int 1))) aNil))))) aNil))))
    mNext)
    (mSeq (mIf (gTest (gBin oEq (gBin iSeq (eVar 0) (eVar 1)) (eC (.str "0"))))
    (mRet (gTup (aCons (eC (.str "number")) (aCons (gBin oAdd (eVar 1) (eC (.int 1))) aNil))))
    mNext)
    (mSeq (mIf (gTest (gBin oIn (gBin iSeq (eVar 0) (eVar 1)) (eC (.str k_FIGURES))))
    (mRet (gTup (aCons (eC (.str "number")) (aCons (gCall 4 f_run_end (aCons (eVar 0) (aCons (eVar 1) (aCons (eC (.str k_FIGURES)) (aCons (eC .non) aNil))))) aNil))))
    mNext)
    (mSeq (mFor FUEL (wTup (eK 2 1)) (tgName 3)
    (mIf (gTest (gMt "str" mStart (eVar 0) (aCons (eVar 3) (aCons (eVar 1) aNil))))
    (mRet (gTup (aCons (eC (.str "sign")) (aCons (gBin oAdd (eVar 1) (gCb bLen (aCons (eVar 3) aNil))) aNil))))
    mNext))
    (mRet (gTup (aCons (eC (.str "none")) (aCons (eVar 1) aNil)))))))))
def f_lexeme_end : List V → Sto → Res V := bodyF N_lexeme_end m_lexeme_end
def m_law_purse : MS := (mSeq (mIf (gTest (gBin oGe (eVar 0) (gBin oPowI (eC (.int 10)) (eC (.int 18)))))
    (mRet (gLst (aCons (gBin oModI (gBin oSubI (eVar 0) (gBin oPowI (eC (.int 10)) (eC (.int 18)))) (gBin oPowI (gBin oPowI (eC (.int 10)) (eC (.int 60))) (eC (.int 10)))) (aCons (eC (.int 0)) (aCons (eVar 1) aNil)))))
    mNext)
    (mRet (gLst (aCons (gCall 2 f_law_mixed (aCons (eVar 0) (aCons (eVar 1) aNil))) (aCons (eC (.int 0)) (aCons (gBin oAdd (gBin oModI (eVar 0) (gBin oAdd (gBin oPowI (eC (.int 10)) (eC (.int 18))) (eC (.int 9)))) (eVar 1)) aNil))))))
def f_law_purse : List V → Sto → Res V := bodyF N_law_purse m_law_purse
def m_law_take : MS := (mSeq (mIf (gTest (gBin oLt (gBin iSeq (eVar 0) (eC (.int 0))) (eVar 1)))
    (mSeq (mAsg (gBin oAdd (gBin iSeq (eVar 0) (eC (.int 1))) (eC (.int 1))) (tgSub (eVar 0) (eC (.int 1)) stLst))
    (mAsg (gBin oAdd (gBin iSeq (eVar 0) (eC (.int 0))) (gBin oMul (eVar 1) (gCall 2 f_law_mixed (aCons (gBin iSeq (eVar 0) (eC (.int 2))) (aCons (gBin oAdd (gBin oMul (eC (.int 11)) (gBin iSeq (eVar 0) (eC (.int 1)))) (eC (.int 5))) aNil))))) (tgSub (eVar 0) (eC (.int 0)) stLst)))
    mNext)
    (mSeq (mSet 2 (gBin oModI (gBin iSeq (eVar 0) (eC (.int 0))) (eVar 1)))
    (mSeq (mAsg (gBin oDivI (gBin iSeq (eVar 0) (eC (.int 0))) (eVar 1)) (tgSub (eVar 0) (eC (.int 0)) stLst))
    (mRet (eVar 2)))))
def f_law_take : List V → Sto → Res V := bodyF N_law_take m_law_take
def m_law_touches : MS := (mSeq (mIf (gTest (gBin oIsN (eVar 2) (eC .non)))
    (mRet (eC (.bl true)))
    mNext)
    (mSeq (mIf (gAnd (gTest (gBin oNe (gBin iSeq (eVar 2) (eC (.int 0))) (eC (.str "sign")))) (gTest (gBin oNe (eVar 0) (eC (.str "sign")))))
    (mRet (eC (.bl false)))
    mNext)
    (mSeq (mIf (gAnd (gTest (gBin oEq (gBin iSeq (eVar 2) (eC (.int 0))) (eC (.str "sign")))) (gTest (gBin oEq (eVar 0) (eC (.str "sign")))))
    (mSeq (mSet 3 (gBin oAdd (gBin iSeq (eVar 2) (eC (.int 1))) (eVar 1)))
    (mRet (gAndV (gBin oNotIn (eVar 3) (gLst (aCons (eC (.str "-->")) (aCons (eC (.str "--")) (aCons (eC (.str "->>")) aNil))))) (gAndV (gNotV (gMt "str" mStart (eVar 3) (aCons (eC (.str "--")) aNil))) (gBin oNotIn (gLst (aCons (gBin iSeq (eVar 2) (eC (.int 1))) (aCons (gBin iSeq (eVar 1) (eC (.int 0))) aNil))) (gCall 0 f_law_grow aNil))))))
    mNext)
    (mRet (eC (.bl true))))))
def f_law_touches : List V → Sto → Res V := bodyF N_law_touches m_law_touches
def m_row_lexemes : MS := (mSeq (mSet 2 (gLst aNil))
    (mSeq (mSet 3 (eC (.int 0)))
    (mSeq (whileL (gAnd (gTest (gBin oLt (eVar 3) (gCb bLen (aCons (eVar 0) aNil)))) (gNot (gTest (gMt "str" mStart (eVar 0) (aCons (eC (.str "--")) (aCons (eVar 3) aNil))))))
    (mIf (gTest (gBin oEq (gBin iSeq (eVar 0) (eVar 3)) (eC (.str " "))))
    (mAug 3 oAddI (eC (.int 1)))
    (mSeq (mAsg (gCall 2 f_lexeme_end (aCons (eVar 0) (aCons (eVar 3) aNil))) (tgUn 2 (fun vs σ S => noEx (tgCons (tgName 4) (fun vs σ S => noEx (tgCons (tgName 5) tgNil vs σ S)) vs σ S))))
    (mSeq (mIf (gTest (gBin oEq (eVar 4) (eC (.str "none"))))
    mNo
    mNext)
    (mSeq (mIf (gAnd (gTest (gBin oNe (eVar 4) (eC (.str "sign")))) (gAnd (gTest (gBin oLt (eVar 5) (gCb bLen (aCons (eVar 0) aNil)))) (gTest (gBin oIn (gBin iSeq (eVar 0) (eVar 5)) (gBin oAdd (gBin oAdd (eC (.str k_SMALL)) (eC (.str k_GREAT))) (eC (.str k_FIGURES)))))))
    mNo
    mNext)
    (mSeq (mExpr (gMt "list" mAppend (eVar 2) (aCons (gTup (aCons (gTup (aCons (eVar 1) (aCons (gBin oAdd (eVar 3) (eC (.int 1))) aNil))) (aCons (eVar 4) (aCons (gSl cSeq (eVar 0) (pSome (eVar 3)) (pSome (eVar 5))) aNil)))) aNil)))
    (mSet 3 (eVar 5))))))) FUEL)
    (mRet (eVar 2)))))
def f_row_lexemes : List V → Sto → Res V := bodyF N_row_lexemes m_row_lexemes
def m_law_word : MS := (mSeq (mSet 1 (gCall 2 f_law_take (aCons (eVar 0) (aCons (eC (.int 8)) aNil))))
    (mSeq (mSet 2 (eC (.str "abcdefghijklmnopqrstuvwxyz")))
    (mSeq (mIf (gTest (gBin oLt (eVar 1) (eC (.int 3))))
    (mSeq (mSet 3 (gBin iSeq (gLst (aCons (eC (.str "x")) (aCons (eC (.str "f")) (aCons (eC (.str "in")) (aCons (eC (.str "ab")) (aCons (eC (.str "lets")) (aCons (eC (.str "ofa")) (aCons (eC (.str "datas")) (aCons (eC (.str "abcdefgh")) (aCons (eC (.str "e")) (aCons (eC (.str "then")) aNil))))))))))) (gCall 2 f_law_take (aCons (eVar 0) (aCons (eC (.int 10)) aNil)))))
    (mRet (gLst (aCons (gBin iSeq (gLst (aCons (eC (.str "name")) (aCons (eC (.str "word")) aNil))) (gCb bInt (aCons (gBin oIn (eVar 3) (gCall 0 f_law_words aNil)) aNil))) (aCons (eVar 3) aNil)))))
    mNext)
    (mSeq (mIf (gTest (gBin oEq (eVar 1) (eC (.int 3))))
    (mRet (gLst (aCons (eC (.str "maker")) (aCons (gBin iSeq (gLst (aCons (eC (.str "A")) (aCons (eC (.str "Cons")) (aCons (eC (.str "True")) (aCons (eC (.str "Abcdefgh")) (aCons (eC (.str "In")) (aCons (eC (.str "Z")) aNil))))))) (gCall 2 f_law_take (aCons (eVar 0) (aCons (eC (.int 6)) aNil)))) aNil))))
    mNext)
    (mSeq (mIf (gTest (gBin oEq (eVar 1) (eC (.int 4))))
    (mRet (gLst (aCons (eC (.str "number")) (aCons (gBin iSeq (gLst (aCons (eC (.str "0")) (aCons (eC (.str "7")) (aCons (eC (.str "10")) (aCons (eC (.str "42")) (aCons (gBin oAdd (eC (.str "1")) (gBin oMul (eC (.str "0")) (eC (.int 29)))) (aCons (eC (.str "905")) aNil))))))) (gCall 2 f_law_take (aCons (eVar 0) (aCons (eC (.int 6)) aNil)))) aNil))))
    mNext)
    (mSeq (mIf (gTest (gBin oEq (eVar 1) (eC (.int 5))))
    (mSeq (mSet 3 (gBin iSeq (gCall 0 f_law_words aNil) (gCall 2 f_law_take (aCons (eVar 0) (aCons (eC (.int 9)) aNil)))))
    (mRet (gLst (aCons (eC (.str "word")) (aCons (eVar 3) aNil)))))
    mNext)
    (mSeq (mIf (gTest (gBin oEq (eVar 1) (eC (.int 6))))
    (mSeq (mSet 4 (gMt "str" mJoin (eC (.str "")) (aCons (gLc FUEL (wRng1 (aCons (gBin oAdd (eC (.int 1)) (gCall 2 f_law_take (aCons (eVar 0) (aCons (eC (.int 8)) aNil)))) aNil)) (tgName 5) tYesG (gBin iSeq (eVar 2) (gCall 2 f_law_take (aCons (eVar 0) (aCons (eC (.int 26)) aNil)))) [5]) aNil)))
    (mRet (gLst (aCons (gBin iSeq (gLst (aCons (eC (.str "name")) (aCons (eC (.str "word")) aNil))) (gCb bInt (aCons (gBin oIn (eVar 4) (gCall 0 f_law_words aNil)) aNil))) (aCons (eVar 4) aNil)))))
    mNext)
    (mRet (gLst (aCons (eC (.str "sign")) (aCons (gBin iSeq (gLst (aCons (eC (.str "->")) (aCons (eC (.str "==")) (aCons (eC (.str "=")) (aCons (eC (.str "|")) (aCons (eC (.str "(")) (aCons (eC (.str ")")) (aCons (eC (.str "+")) (aCons (eC (.str "-")) (aCons (eC (.str "*")) (aCons (eC (.str "<")) (aCons (eC (.str "_")) aNil)))))))))))) (gCall 2 f_law_take (aCons (eVar 0) (aCons (eC (.int 11)) aNil)))) aNil)))))))))))
def f_law_word : List V → Sto → Res V := bodyF N_law_word m_law_word
def m_lexemes : MS := (mSeq (mSet 1 (gLst aNil))
    (mSeq (mFor FUEL (wEnum (aCons (eVar 0) aNil)) (tgUn 2 (fun vs σ S => noEx (tgCons (tgName 2) (fun vs σ S => noEx (tgCons (tgName 3) tgNil vs σ S)) vs σ S)))
    (mExpr (gMt "list" mExtend (eVar 1) (aCons (gCall 2 f_row_lexemes (aCons (eVar 3) (aCons (gBin oAdd (eVar 2) (eC (.int 1))) aNil))) aNil))))
    (mRet (eVar 1))))
def f_lexemes : List V → Sto → Res V := bodyF N_lexemes m_lexemes
def m_law_row : MS := (mSeq (mSet 3 (gBin oMul (eC (.str " ")) (gCall 2 f_law_take (aCons (eVar 0) (aCons (eC (.int 9)) aNil)))))
    (mSeq (mSet 4 (gLst aNil))
    (mSeq (mSet 5 (eC .non))
    (mSeq (mFor FUEL (wRng1 (aCons (eVar 2) aNil)) (tgName 6)
    (mSeq (mAsg (gCall 1 f_law_word (aCons (eVar 0) aNil)) (tgUn 2 (fun vs σ S => noEx (tgCons (tgName 7) (fun vs σ S => noEx (tgCons (tgName 8) tgNil vs σ S)) vs σ S))))
    (mIf (gTest (gBin oLt (gCb bLen (aCons (eVar 3) aNil)) (eC (.int 55))))
    (mSeq (mIf (gOr (gTest (gBin oGt (gCall 2 f_law_take (aCons (eVar 0) (aCons (eC (.int 3)) aNil))) (eC (.int 0)))) (gNot (gTest (gCall 3 f_law_touches (aCons (eVar 7) (aCons (eVar 8) (aCons (eVar 5) aNil)))))))
    (mSet 3 (gBin oAdd (eVar 3) (gBin oMul (eC (.str " ")) (gBin oAdd (eC (.int 1)) (gCall 2 f_law_take (aCons (eVar 0) (aCons (eC (.int 3)) aNil)))))))
    mNext)
    (mSeq (mExpr (gMt "list" mAppend (eVar 4) (aCons (gLst (aCons (gTup (aCons (eVar 1) (aCons (gBin oAdd (gCb bLen (aCons (eVar 3) aNil)) (eC (.int 1))) aNil))) (aCons (eVar 7) (aCons (eVar 8) aNil)))) aNil)))
    (mSeq (mSet 3 (gBin oAdd (eVar 3) (eVar 8)))
    (mSet 5 (gLst (aCons (eVar 7) (aCons (eVar 8) aNil)))))))
    mNext)))
    (mSeq (mSet 3 (gBin oAdd (eVar 3) (gBin oMul (eC (.str " ")) (gCall 2 f_law_take (aCons (eVar 0) (aCons (eC (.int 3)) aNil))))))
    (mSeq (mIf (gTest (gBin oEq (gCall 2 f_law_take (aCons (eVar 0) (aCons (eC (.int 4)) aNil))) (eC (.int 0))))
    (mSet 3 (gBin oAdd (gBin oAdd (eVar 3) (eC (.str " -- "))) (gBin iSeq (gLst (aCons (eC (.str "let x")) (aCons (eC (.str "-")) (aCons (eC (.str "")) (aCons (eC (.str "A9 ?")) aNil))))) (gCall 2 f_law_take (aCons (eVar 0) (aCons (eC (.int 4)) aNil))))))
    mNext)
    (mRet (gLst (aCons (eVar 3) (aCons (eVar 4) aNil))))))))))
def f_law_row : List V → Sto → Res V := bodyF N_law_row m_law_row
def m_law_rows : MS := (mSeq (mSet 2 (gLst aNil))
    (mSeq (mSet 3 (gLst aNil))
    (mSeq (mFor FUEL (wRng2 (aCons (eC (.int 1)) (aCons (gBin oAdd (eVar 1) (eC (.int 1))) aNil))) (tgName 4)
    (mSeq (mAsg (gCall 3 f_law_row (aCons (eVar 0) (aCons (eVar 4) (aCons (gCall 2 f_law_take (aCons (eVar 0) (aCons (eC (.int 7)) aNil))) aNil)))) (tgUn 2 (fun vs σ S => noEx (tgCons (tgName 5) (fun vs σ S => noEx (tgCons (tgName 6) tgNil vs σ S)) vs σ S))))
    (mSeq (mExpr (gMt "list" mAppend (eVar 2) (aCons (eVar 5) aNil)))
    (mSet 3 (gBin oAdd (eVar 3) (eVar 6))))))
    (mRet (gLst (aCons (eVar 2) (aCons (eVar 3) aNil)))))))
def f_law_rows : List V → Sto → Res V := bodyF N_law_rows m_law_rows
def m_law : MS := (mSeq (mFor FUEL (wSeq (gBin oAdd (gSl cSeq (eVar 0) pNone (pSome (eC (.int 5)))) (gLst (aCons (gCall 2 f_law_at (aCons (eVar 0) (aCons (eC (.int 2)) aNil))) aNil)))) (tgName 1)
    (mSeq (mSet 2 (gCall 2 f_law_purse (aCons (eVar 1) (aCons (eC (.int 1)) aNil))))
    (mSeq (mAsg (gCall 2 f_law_rows (aCons (eVar 2) (aCons (gCall 2 f_law_take (aCons (eVar 2) (aCons (eC (.int 8)) aNil))) aNil))) (tgUn 2 (fun vs σ S => noEx (tgCons (tgName 3) (fun vs σ S => noEx (tgCons (tgName 4) tgNil vs σ S)) vs σ S))))
    (mSeq (mSet 4 (gLc FUEL (wSeq (eVar 4)) (tgUn 3 (fun vs σ S => noEx (tgCons (tgName 5) (fun vs σ S => noEx (tgCons (tgName 6) (fun vs σ S => noEx (tgCons (tgName 7) tgNil vs σ S)) vs σ S)) vs σ S))) tYesG (gTup (aCons (eVar 5) (aCons (eVar 6) (aCons (eVar 7) aNil)))) [5, 6, 7]))
    (mSeq (mSet 8 (gCb bList (aCons (eVar 3) aNil)))
    (mFor FUEL (wRng1 (aCons (eC (.int 2)) aNil)) (tgName 9)
    (mSeq (mSet 10 (gBin iSeq (gLst (aCons (gCall 1 f_lexemes (aCons (eVar 8) aNil)) (aCons (gCallK 1 0 1 [(true, 0)] f_lexemes aNil (aCons (eVar 8) aNil)) aNil))) (eVar 9)))
    (mSeq (mIf (gOr (gNot (gTest (gCb bIsi (aCons (eVar 10) (aCons (eC (.ty "list")) aNil))))) (gOr (gTest (gBin oNe (eVar 10) (eVar 4))) (gTest (gBin oNe (eVar 8) (eVar 3)))))
    (mRet (eC (.bl false)))
    mNext)
    (mSeq (mFor FUEL (wSeq (eVar 10)) (tgUn 3 (fun vs σ S => noEx (tgCons (tgName 5) (fun vs σ S => noEx (tgCons (tgName 6) (fun vs σ S => noEx (tgCons (tgName 7) tgNil vs σ S)) vs σ S)) vs σ S)))
    (mIf (gOr (gNot (gTest (gCb bIsi (aCons (eVar 5) (aCons (eC (.ty "tuple")) aNil))))) (gOr (gTest (gCb bIsi (aCons (gBin iSeq (eVar 5) (eC (.int 0))) (aCons (eC (.ty "bool")) aNil)))) (gNot (gTest (gCb bIsi (aCons (eVar 7) (aCons (eC (.ty "str")) aNil)))))))
    (mRet (eC (.bl false)))
    mNext))
    (mSeq (mExpr (gMt "list" mAppend (eVar 10) (aCons (eC (.str "zz")) aNil)))
    (mExpr (gMt "list" mReverse (eVar 10) aNil))))))))))))
    (mRet (eC (.bl true))))
def f_law : List V → Sto → Res V := bodyF N_law m_law
/-! ### what the top has written -/
structure Txt (G : Fix) (K : PySem.W.Frag) (mg : Str → Option Value) (a : Nat → Addr) (fd : Nat → FuncData) : Prop where
  Frun_end : Fun K "run_end" "run_end" s_run_end (a 0) (fd 0)
  Mrun_end : mg "run_end" = some (.ref (a 0))
  Flaw_mixed : Fun K "_law_mixed" "_law_mixed" s_law_mixed (a 1) (fd 1)
  Mlaw_mixed : mg "_law_mixed" = some (.ref (a 1))
  Flaw_at : Fun K "_law_at" "_law_at" s_law_at (a 2) (fd 2)
  Mlaw_at : mg "_law_at" = some (.ref (a 2))
  Flaw_words : Fun K "_law_words" "_law_words" s_law_words (a 3) (fd 3)
  Mlaw_words : mg "_law_words" = some (.ref (a 3))
  Flaw_grow : Fun K "_law_grow" "_law_grow" s_law_grow (a 4) (fd 4)
  Mlaw_grow : mg "_law_grow" = some (.ref (a 4))
  Flexeme_end : Fun K "lexeme_end" "lexeme_end" s_lexeme_end (a 5) (fd 5)
  Mlexeme_end : mg "lexeme_end" = some (.ref (a 5))
  Flaw_purse : Fun K "_law_purse" "_law_purse" s_law_purse (a 6) (fd 6)
  Mlaw_purse : mg "_law_purse" = some (.ref (a 6))
  Flaw_take : Fun K "_law_take" "_law_take" s_law_take (a 7) (fd 7)
  Mlaw_take : mg "_law_take" = some (.ref (a 7))
  Flaw_touches : Fun K "_law_touches" "_law_touches" s_law_touches (a 8) (fd 8)
  Mlaw_touches : mg "_law_touches" = some (.ref (a 8))
  Frow_lexemes : Fun K "row_lexemes" "row_lexemes" s_row_lexemes (a 9) (fd 9)
  Mrow_lexemes : mg "row_lexemes" = some (.ref (a 9))
  Flaw_word : Fun K "_law_word" "_law_word" s_law_word (a 10) (fd 10)
  Mlaw_word : mg "_law_word" = some (.ref (a 10))
  Flexemes : Fun K "lexemes" "lexemes" s_lexemes (a 11) (fd 11)
  Mlexemes : mg "lexemes" = some (.ref (a 11))
  Flaw_row : Fun K "_law_row" "_law_row" s_law_row (a 12) (fd 12)
  Mlaw_row : mg "_law_row" = some (.ref (a 12))
  Flaw_rows : Fun K "_law_rows" "_law_rows" s_law_rows (a 13) (fd 13)
  Mlaw_rows : mg "_law_rows" = some (.ref (a 13))
  Flaw : Fun K "law" "law" s_law (a 14) (fd 14)
  Mlaw : mg "law" = some (.ref (a 14))
  z_bool : mg "bool" = none
  z_enumerate : mg "enumerate" = none
  z_int : mg "int" = none
  z_isinstance : mg "isinstance" = none
  z_len : mg "len" = none
  z_list : mg "list" = none
  z_range : mg "range" = none
  z_str : mg "str" = none
  z_tuple : mg "tuple" = none
  c_FIGURES : ∃ u, mg "FIGURES" = some u ∧ RelV (.str k_FIGURES) u
  c_GREAT : ∃ u, mg "GREAT" = some u ∧ RelV (.str k_GREAT) u
  c_MOST_LETTERS : ∃ u, mg "MOST_LETTERS" = some u ∧ RelV (.int 8) u
  c_SIGNS : mg "SIGNS" = some (.ref (G.sta 1))
  c_SMALL : ∃ u, mg "SMALL" = some u ∧ RelV (.str k_SMALL) u
  c_WORDS : mg "WORDS" = some (.ref (G.sta 0))
section
variable {G : Fix} {P : Program} {w : World} {K : PySem.W.Frag} {mg : Str → Option Value} {base : Heap} {a : Nat → Addr} {fd : Nat → FuncData}
theorem d_run_end (T : Txt G K mg a fd) : Dfn G P w K mg base 1 "run_end" (a 0) (fd 0) P_run_end f_run_end := by
  refine ⟨sDef T.Frun_end sc_run_end fun cdv A outer s H E B => ?_, T.Mrun_end, T.Frun_end.kp, T.Frun_end.binds fun _ _ _ _ _ _ us hl => match us, hl with | [_, _, _, _], _ => rfl⟩
  exact (ssCons (sSet (i := 4) sc_run_end.nd rfl (by first | exact Or.inl rfl | exact Or.inr rfl) (sVar 1))
    (ssCons (sWhile FUEL B.hp (sW (sWand (sCmpT sLt (sVar 4) (sCb sLen (by rfl) T.z_len (by decide +kernel) (sACons (sVar 0) sANil))) (sWand (sCmpT (sIn B.hr) (sSub sISeq (sVar 0) (sVar 4)) (sVar 2)) (sWand1 (sW (sWor (sCmpT sIsN (sVar 3) sNon) (sWor1 (sCmpT sLt (sVar 4) (sBin sAdd (sVar 1) (sVar 3))))))))))
    (ssOne (sAug (i := 4) sc_run_end.nd rfl (by first | exact Or.inl rfl | exact Or.inr rfl) sInt sIpAdd)))
    (ssOne (sRet (sVar 4)))))
theorem d_law_mixed (T : Txt G K mg a fd) : Dfn G P w K mg base 1 "_law_mixed" (a 1) (fd 1) P_law_mixed f_law_mixed := by
  refine ⟨sDef T.Flaw_mixed sc_law_mixed fun cdv A outer s H E B => ?_, T.Mlaw_mixed, T.Flaw_mixed.kp, T.Flaw_mixed.binds fun _ _ _ _ _ _ us hl => match us, hl with | [_, _], _ => rfl⟩
  exact (ssCons (sSet (i := 2) sc_law_mixed.nd rfl (by first | exact Or.inl rfl | exact Or.inr rfl) (sBin sAdd (sBin sAdd (sBin sMul (sBin sAdd (sBin sModI (sVar 0) (sBin sAdd (sBin sPowI sInt sInt) sInt)) (sBin sMul sInt (sVar 1))) sInt) (sBin sMul sInt (sVar 1))) sInt))
    (ssCons (sSet (i := 2) sc_law_mixed.nd rfl (by first | exact Or.inl rfl | exact Or.inr rfl) (sBin sModI (sBin sMul (sVar 2) (sVar 2)) (sBin sAdd (sBin sPowI sInt sInt) sInt)))
    (ssOne (sRet (sBin sModI (sBin sMul (sBin sAdd (sVar 2) sInt) (sBin sAdd (sVar 2) sInt)) (sBin sAdd (sBin sPowI sInt sInt) sInt))))))
theorem d_law_at (T : Txt G K mg a fd) : Dfn G P w K mg base 1 "_law_at" (a 2) (fd 2) P_law_at f_law_at := by
  refine ⟨sDef T.Flaw_at sc_law_at fun cdv A outer s H E B => ?_, T.Mlaw_at, T.Flaw_at.kp, T.Flaw_at.binds fun _ _ _ _ _ _ us hl => match us, hl with | [_, _], _ => rfl⟩
  exact (ssCons (sIf (sCmpT sLt (sVar 1) (sCb sLen (by rfl) T.z_len (by decide +kernel) (sACons (sVar 0) sANil)))
    (ssOne (sRet (sSub sISeq (sVar 0) (sVar 1))))
    ssNil)
    (ssOne (sRet (sBin sAdd (sBin sMul sInt (sVar 1)) sInt))))
theorem d_law_words (T : Txt G K mg a fd) : Dfn G P w K mg base 1 "_law_words" (a 3) (fd 3) P_law_words f_law_words := by
  refine ⟨sDef T.Flaw_words sc_law_words fun cdv A outer s H E B => ?_, T.Mlaw_words, T.Flaw_words.kp, T.Flaw_words.binds fun _ _ _ _ _ _ us hl => match us, hl with | [], _ => rfl⟩
  exact (ssOne (sRet (sLst (sACons sStr (sACons sStr (sACons sStr (sACons sStr (sACons sStr (sACons sStr (sACons sStr (sACons sStr (sACons sStr sANil))))))))))))
theorem d_law_grow (T : Txt G K mg a fd) : Dfn G P w K mg base 1 "_law_grow" (a 4) (fd 4) P_law_grow f_law_grow := by
  refine ⟨sDef T.Flaw_grow sc_law_grow fun cdv A outer s H E B => ?_, T.Mlaw_grow, T.Flaw_grow.kp, T.Flaw_grow.binds fun _ _ _ _ _ _ us hl => match us, hl with | [], _ => rfl⟩
  exact (ssOne (sRet (sLst (sACons (sLst (sACons sStr (sACons sStr sANil))) (sACons (sLst (sACons sStr (sACons sStr sANil))) (sACons (sLst (sACons sStr (sACons sStr sANil))) (sACons (sLst (sACons sStr (sACons sStr sANil))) (sACons (sLst (sACons sStr (sACons sStr sANil))) (sACons (sLst (sACons sStr (sACons sStr sANil))) (sACons (sLst (sACons sStr (sACons sStr sANil))) (sACons (sLst (sACons sStr (sACons sStr sANil))) (sACons (sLst (sACons sStr (sACons sStr sANil))) sANil))))))))))))
theorem d_lexeme_end (T : Txt G K mg a fd) : Dfn G P w K mg base 2 "lexeme_end" (a 5) (fd 5) P_lexeme_end f_lexeme_end := by
  refine ⟨sDef T.Flexeme_end sc_lexeme_end fun cdv A outer s H E B => ?_, T.Mlexeme_end, T.Flexeme_end.kp, T.Flexeme_end.binds fun _ _ _ _ _ _ us hl => match us, hl with | [_, _], _ => rfl⟩
  obtain ⟨u_FIGURES, e_FIGURES, r_FIGURES⟩ := T.c_FIGURES
  obtain ⟨u_GREAT, e_GREAT, r_GREAT⟩ := T.c_GREAT
  obtain ⟨u_MOST_LETTERS, e_MOST_LETTERS, r_MOST_LETTERS⟩ := T.c_MOST_LETTERS
  obtain ⟨u_SMALL, e_SMALL, r_SMALL⟩ := T.c_SMALL
  exact (ssCons (sIf (sCmpT (sIn B.hr) (sSub sISeq (sVar 0) (sVar 1)) (sGlob (by rfl) e_SMALL r_SMALL (fun _ => nofun)))
    (ssCons (sSet (i := 2) sc_lexeme_end.nd rfl (by first | exact Or.inl rfl | exact Or.inr rfl) (sCall (d_run_end T) (B.hr.mono (by decide)) B.tk (by rfl) (sACons (sVar 0) (sACons (sVar 1) (sACons (sGlob (by rfl) e_SMALL r_SMALL (fun _ => nofun)) (sACons (sGlob (by rfl) e_MOST_LETTERS r_MOST_LETTERS (fun _ => nofun)) sANil))))))
    (ssOne (sRet (sTup (sACons (sIfE (sCmpT (sIn B.hr) (sSlice sCSeq (sVar 0) (sPSome (sVar 1)) (sPSome (sVar 2))) (sK (j := 1) (k := 0) (by rfl) T.c_WORDS)) sStr sStr) (sACons (sVar 2) sANil))))))
    ssNil)
    (ssCons (sIf (sCmpT (sIn B.hr) (sSub sISeq (sVar 0) (sVar 1)) (sGlob (by rfl) e_GREAT r_GREAT (fun _ => nofun)))
    (ssOne (sRet (sTup (sACons sStr (sACons (sCall (d_run_end T) (B.hr.mono (by decide)) B.tk (by rfl) (sACons (sVar 0) (sACons (sBin sAdd (sVar 1) sInt) (sACons (sGlob (by rfl) e_SMALL r_SMALL (fun _ => nofun)) (sACons (sBin sSubI (sGlob (by rfl) e_MOST_LETTERS r_MOST_LETTERS (fun _ => nofun)) sInt) sANil))))) sANil)))))
    ssNil)
    (ssCons (sIf (sCmpT (sEq B.hr) (sSub sISeq (sVar 0) (sVar 1)) sStr)
    (ssOne (sRet (sTup (sACons sStr (sACons (sBin sAdd (sVar 1) sInt) sANil)))))
    ssNil)
    (ssCons (sIf (sCmpT (sIn B.hr) (sSub sISeq (sVar 0) (sVar 1)) (sGlob (by rfl) e_FIGURES r_FIGURES (fun _ => nofun)))
    (ssOne (sRet (sTup (sACons sStr (sACons (sCall (d_run_end T) (B.hr.mono (by decide)) B.tk (by rfl) (sACons (sVar 0) (sACons (sVar 1) (sACons (sGlob (by rfl) e_FIGURES r_FIGURES (fun _ => nofun)) (sACons sNon sANil))))) sANil)))))
    ssNil)
    (ssCons (sFor FUEL B.hp B.calm (sWTup (sK (j := 2) (k := 1) (by rfl) T.c_SIGNS)) (sTgName (i := 3) sc_lexeme_end.nd rfl (by first | exact Or.inl rfl | exact Or.inr rfl))
    (ssOne (sIf (sTest (sMt PySem.F.plainAttrs_str PySem.F.slot_str_startswith PySem.F.type_str_startswith sStart (sVar 0) (sACons (sVar 3) (sACons (sVar 1) sANil))))
    (ssOne (sRet (sTup (sACons sStr (sACons (sBin sAdd (sVar 1) (sCb sLen (by rfl) T.z_len (by decide +kernel) (sACons (sVar 3) sANil))) sANil)))))
    ssNil)))
    (ssOne (sRet (sTup (sACons sStr (sACons (sVar 1) sANil))))))))))
theorem d_law_purse (T : Txt G K mg a fd) : Dfn G P w K mg base 2 "_law_purse" (a 6) (fd 6) P_law_purse f_law_purse := by
  refine ⟨sDef T.Flaw_purse sc_law_purse fun cdv A outer s H E B => ?_, T.Mlaw_purse, T.Flaw_purse.kp, T.Flaw_purse.binds fun _ _ _ _ _ _ us hl => match us, hl with | [_, _], _ => rfl⟩
  exact (ssCons (sIf (sCmpT sGe (sVar 0) (sBin sPowI sInt sInt))
    (ssOne (sRet (sLst (sACons (sBin sModI (sBin sSubI (sVar 0) (sBin sPowI sInt sInt)) (sBin sPowI (sBin sPowI sInt sInt) sInt)) (sACons sInt (sACons (sVar 1) sANil))))))
    ssNil)
    (ssOne (sRet (sLst (sACons (sCall (d_law_mixed T) (B.hr.mono (by decide)) B.tk (by rfl) (sACons (sVar 0) (sACons (sVar 1) sANil))) (sACons sInt (sACons (sBin sAdd (sBin sModI (sVar 0) (sBin sAdd (sBin sPowI sInt sInt) sInt)) (sVar 1)) sANil)))))))
theorem d_law_take (T : Txt G K mg a fd) : Dfn G P w K mg base 2 "_law_take" (a 7) (fd 7) P_law_take f_law_take := by
  refine ⟨sDef T.Flaw_take sc_law_take fun cdv A outer s H E B => ?_, T.Mlaw_take, T.Flaw_take.kp, T.Flaw_take.binds fun _ _ _ _ _ _ us hl => match us, hl with | [_, _], _ => rfl⟩
  exact (ssCons (sIf (sCmpT sLt (sSub sISeq (sVar 0) sInt) (sVar 1))
    (ssCons (sAsg (sBin sAdd (sSub sISeq (sVar 0) sInt) sInt) (sTgSub (sVar 0) sInt sStLst))
    (ssOne (sAsg (sBin sAdd (sSub sISeq (sVar 0) sInt) (sBin sMul (sVar 1) (sCall (d_law_mixed T) (B.hr.mono (by decide)) B.tk (by rfl) (sACons (sSub sISeq (sVar 0) sInt) (sACons (sBin sAdd (sBin sMul sInt (sSub sISeq (sVar 0) sInt)) sInt) sANil))))) (sTgSub (sVar 0) sInt sStLst))))
    ssNil)
    (ssCons (sSet (i := 2) sc_law_take.nd rfl (by first | exact Or.inl rfl | exact Or.inr rfl) (sBin sModI (sSub sISeq (sVar 0) sInt) (sVar 1)))
    (ssCons (sAsg (sBin sDivI (sSub sISeq (sVar 0) sInt) (sVar 1)) (sTgSub (sVar 0) sInt sStLst))
    (ssOne (sRet (sVar 2))))))
theorem d_law_touches (T : Txt G K mg a fd) : Dfn G P w K mg base 2 "_law_touches" (a 8) (fd 8) P_law_touches f_law_touches := by
  refine ⟨sDef T.Flaw_touches sc_law_touches fun cdv A outer s H E B => ?_, T.Mlaw_touches, T.Flaw_touches.kp, T.Flaw_touches.binds fun _ _ _ _ _ _ us hl => match us, hl with | [_, _, _], _ => rfl⟩
  exact (ssCons (sIf (sCmpT sIsN (sVar 2) sNon)
    (ssOne (sRet sBl))
    ssNil)
    (ssCons (sIf (sW (sWand (sCmpT (sNe B.hr) (sSub sISeq (sVar 2) sInt) sStr) (sWand1 (sCmpT (sNe B.hr) (sVar 0) sStr))))
    (ssOne (sRet sBl))
    ssNil)
    (ssCons (sIf (sW (sWand (sCmpT (sEq B.hr) (sSub sISeq (sVar 2) sInt) sStr) (sWand1 (sCmpT (sEq B.hr) (sVar 0) sStr))))
    (ssCons (sSet (i := 3) sc_law_touches.nd rfl (by first | exact Or.inl rfl | exact Or.inr rfl) (sBin sAdd (sSub sISeq (sVar 2) sInt) (sVar 1)))
    (ssOne (sRet (sAndV (sCmp (sNotIn B.hr) (sVar 3) (sLst (sACons sStr (sACons sStr (sACons sStr sANil))))) (sAndV (sNotV (sMt PySem.F.plainAttrs_str PySem.F.slot_str_startswith PySem.F.type_str_startswith sStart (sVar 3) (sACons sStr sANil))) (sOne (sCmp (sNotIn B.hr) (sLst (sACons (sSub sISeq (sVar 2) sInt) (sACons (sSub sISeq (sVar 1) sInt) sANil))) (sCall0 (d_law_grow T) (B.hr.mono (by decide)) B.tk (by rfl)))))))))
    ssNil)
    (ssOne (sRet sBl)))))
theorem d_row_lexemes (T : Txt G K mg a fd) : Dfn G P w K mg base 3 "row_lexemes" (a 9) (fd 9) P_row_lexemes f_row_lexemes := by
  refine ⟨sDef T.Frow_lexemes sc_row_lexemes fun cdv A outer s H E B => ?_, T.Mrow_lexemes, T.Frow_lexemes.kp, T.Frow_lexemes.binds fun _ _ _ _ _ _ us hl => match us, hl with | [_, _], _ => rfl⟩
  obtain ⟨u_FIGURES, e_FIGURES, r_FIGURES⟩ := T.c_FIGURES
  obtain ⟨u_GREAT, e_GREAT, r_GREAT⟩ := T.c_GREAT
  obtain ⟨u_SMALL, e_SMALL, r_SMALL⟩ := T.c_SMALL
  exact (ssCons (sSet (i := 2) sc_row_lexemes.nd rfl (by first | exact Or.inl rfl | exact Or.inr rfl) (sLst sANil))
    (ssCons (sSet (i := 3) sc_row_lexemes.nd rfl (by first | exact Or.inl rfl | exact Or.inr rfl) sInt)
    (ssCons (sWhile FUEL B.hp (sW (sWand (sCmpT sLt (sVar 3) (sCb sLen (by rfl) T.z_len (by decide +kernel) (sACons (sVar 0) sANil))) (sWand1 (sNotT (sTest (sMt PySem.F.plainAttrs_str PySem.F.slot_str_startswith PySem.F.type_str_startswith sStart (sVar 0) (sACons sStr (sACons (sVar 3) sANil))))))))
    (ssOne (sIf (sCmpT (sEq B.hr) (sSub sISeq (sVar 0) (sVar 3)) sStr)
    (ssOne (sAug (i := 3) sc_row_lexemes.nd rfl (by first | exact Or.inl rfl | exact Or.inr rfl) sInt sIpAdd))
    (ssCons (sAsg (sCall (d_lexeme_end T) (B.hr.mono (by decide)) B.tk (by rfl) (sACons (sVar 0) (sACons (sVar 3) sANil))) (sTgUn (by rfl) (sTgCons (sTgName (i := 4) sc_row_lexemes.nd rfl (by first | exact Or.inl rfl | exact Or.inr rfl)) (sTgCons (sTgName (i := 5) sc_row_lexemes.nd rfl (by first | exact Or.inl rfl | exact Or.inr rfl)) sTgNil))))
    (ssCons (sIf (sCmpT (sEq B.hr) (sVar 4) sStr)
    (ssOne sNever)
    ssNil)
    (ssCons (sIf (sW (sWand (sCmpT (sNe B.hr) (sVar 4) sStr) (sWand (sCmpT sLt (sVar 5) (sCb sLen (by rfl) T.z_len (by decide +kernel) (sACons (sVar 0) sANil))) (sWand1 (sCmpT (sIn B.hr) (sSub sISeq (sVar 0) (sVar 5)) (sBin sAdd (sBin sAdd (sGlob (by rfl) e_SMALL r_SMALL (fun _ => nofun)) (sGlob (by rfl) e_GREAT r_GREAT (fun _ => nofun))) (sGlob (by rfl) e_FIGURES r_FIGURES (fun _ => nofun))))))))
    (ssOne sNever)
    ssNil)
    (ssCons (sExpr (sMt PySem.F.plainAttrs_list PySem.F.slot_list_append PySem.F.type_list_append sAppend (sVar 2) (sACons (sTup (sACons (sTup (sACons (sVar 1) (sACons (sBin sAdd (sVar 3) sInt) sANil))) (sACons (sVar 4) (sACons (sSlice sCSeq (sVar 0) (sPSome (sVar 3)) (sPSome (sVar 5))) sANil)))) sANil)))
    (ssOne (sSet (i := 3) sc_row_lexemes.nd rfl (by first | exact Or.inl rfl | exact Or.inr rfl) (sVar 5))))))))))
    (ssOne (sRet (sVar 2))))))
theorem d_law_word (T : Txt G K mg a fd) : Dfn G P w K mg base 3 "_law_word" (a 10) (fd 10) P_law_word f_law_word := by
  refine ⟨sDef T.Flaw_word sc_law_word fun cdv A outer s H E B => ?_, T.Mlaw_word, T.Flaw_word.kp, T.Flaw_word.binds fun _ _ _ _ _ _ us hl => match us, hl with | [_], _ => rfl⟩
  exact (ssCons (sSet (i := 1) sc_law_word.nd rfl (by first | exact Or.inl rfl | exact Or.inr rfl) (sCall (d_law_take T) (B.hr.mono (by decide)) B.tk (by rfl) (sACons (sVar 0) (sACons sInt sANil))))
    (ssCons (sSet (i := 2) sc_law_word.nd rfl (by first | exact Or.inl rfl | exact Or.inr rfl) sStr)
    (ssCons (sIf (sCmpT sLt (sVar 1) sInt)
    (ssCons (sSet (i := 3) sc_law_word.nd rfl (by first | exact Or.inl rfl | exact Or.inr rfl) (sSub sISeq (sLst (sACons sStr (sACons sStr (sACons sStr (sACons sStr (sACons sStr (sACons sStr (sACons sStr (sACons sStr (sACons sStr (sACons sStr sANil))))))))))) (sCall (d_law_take T) (B.hr.mono (by decide)) B.tk (by rfl) (sACons (sVar 0) (sACons sInt sANil)))))
    (ssOne (sRet (sLst (sACons (sSub sISeq (sLst (sACons sStr (sACons sStr sANil))) (sCty sIntOf (by rfl) T.z_int (by decide +kernel) (sACons (sCmp (sIn B.hr) (sVar 3) (sCall0 (d_law_words T) (B.hr.mono (by decide)) B.tk (by rfl))) sANil))) (sACons (sVar 3) sANil))))))
    ssNil)
    (ssCons (sIf (sCmpT (sEq B.hr) (sVar 1) sInt)
    (ssOne (sRet (sLst (sACons sStr (sACons (sSub sISeq (sLst (sACons sStr (sACons sStr (sACons sStr (sACons sStr (sACons sStr (sACons sStr sANil))))))) (sCall (d_law_take T) (B.hr.mono (by decide)) B.tk (by rfl) (sACons (sVar 0) (sACons sInt sANil)))) sANil)))))
    ssNil)
    (ssCons (sIf (sCmpT (sEq B.hr) (sVar 1) sInt)
    (ssOne (sRet (sLst (sACons sStr (sACons (sSub sISeq (sLst (sACons sStr (sACons sStr (sACons sStr (sACons sStr (sACons (sBin sAdd sStr (sBin sMul sStr sInt)) (sACons sStr sANil))))))) (sCall (d_law_take T) (B.hr.mono (by decide)) B.tk (by rfl) (sACons (sVar 0) (sACons sInt sANil)))) sANil)))))
    ssNil)
    (ssCons (sIf (sCmpT (sEq B.hr) (sVar 1) sInt)
    (ssCons (sSet (i := 3) sc_law_word.nd rfl (by first | exact Or.inl rfl | exact Or.inr rfl) (sSub sISeq (sCall0 (d_law_words T) (B.hr.mono (by decide)) B.tk (by rfl)) (sCall (d_law_take T) (B.hr.mono (by decide)) B.tk (by rfl) (sACons (sVar 0) (sACons sInt sANil)))))
    (ssOne (sRet (sLst (sACons sStr (sACons (sVar 3) sANil))))))
    ssNil)
    (ssCons (sIf (sCmpT (sEq B.hr) (sVar 1) sInt)
    (ssCons (sSet (i := 4) sc_law_word.nd rfl (by first | exact Or.inl rfl | exact Or.inr rfl) (sMt PySem.F.plainAttrs_str PySem.F.slot_str_join PySem.F.type_str_join sJoin sStr (sACons (sLc FUEL (own := [("k", 5)]) (by rfl) sc_law_word.nd (sWRng1 (by rfl) T.z_range (sACons (sBin sAdd sInt (sCall (d_law_take T) (B.hr.mono (by decide)) B.tk (by rfl) (sACons (sVar 0) (sACons sInt sANil)))) sANil)) (blkOk_by (N := N_law_word) (sc := defScope s_law_word) (by decide +kernel)) (fun _ _ _ _ _ => (sTgName (i := 5) sc_law_word.nd rfl (by first | exact Or.inl rfl | exact Or.inr rfl))) (fun _ _ _ _ _ => sPsNil) (fun _ _ _ _ _ => (sSub sISeq (sVar 2) (sCall (d_law_take T) (B.hr.mono (by decide)) takes0 (by rfl) (sACons (sVar 0) (sACons sInt sANil))))) (kpName (by decide))) sANil)))
    (ssOne (sRet (sLst (sACons (sSub sISeq (sLst (sACons sStr (sACons sStr sANil))) (sCty sIntOf (by rfl) T.z_int (by decide +kernel) (sACons (sCmp (sIn B.hr) (sVar 4) (sCall0 (d_law_words T) (B.hr.mono (by decide)) B.tk (by rfl))) sANil))) (sACons (sVar 4) sANil))))))
    ssNil)
    (ssOne (sRet (sLst (sACons sStr (sACons (sSub sISeq (sLst (sACons sStr (sACons sStr (sACons sStr (sACons sStr (sACons sStr (sACons sStr (sACons sStr (sACons sStr (sACons sStr (sACons sStr (sACons sStr sANil)))))))))))) (sCall (d_law_take T) (B.hr.mono (by decide)) B.tk (by rfl) (sACons (sVar 0) (sACons sInt sANil)))) sANil))))))))))))
theorem d_lexemes (T : Txt G K mg a fd) : Dfn G P w K mg base 4 "lexemes" (a 11) (fd 11) P_lexemes f_lexemes := by
  refine ⟨sDef T.Flexemes sc_lexemes fun cdv A outer s H E B => ?_, T.Mlexemes, T.Flexemes.kp, T.Flexemes.binds fun _ _ _ _ _ _ us hl => match us, hl with | [_], _ => rfl⟩
  exact (ssCons (sSet (i := 1) sc_lexemes.nd rfl (by first | exact Or.inl rfl | exact Or.inr rfl) (sLst sANil))
    (ssCons (sFor FUEL B.hp B.calm (sWEnum (by rfl) T.z_enumerate (sACons (sVar 0) sANil)) (sTgUn (by rfl) (sTgCons (sTgName (i := 2) sc_lexemes.nd rfl (by first | exact Or.inl rfl | exact Or.inr rfl)) (sTgCons (sTgName (i := 3) sc_lexemes.nd rfl (by first | exact Or.inl rfl | exact Or.inr rfl)) sTgNil)))
    (ssOne (sExpr (sMt PySem.F.plainAttrs_list PySem.F.slot_list_extend PySem.F.type_list_extend sExtend (sVar 1) (sACons (sCall (d_row_lexemes T) (B.hr.mono (by decide)) B.tk (by rfl) (sACons (sVar 3) (sACons (sBin sAdd (sVar 2) sInt) sANil))) sANil)))))
    (ssOne (sRet (sVar 1)))))
theorem d_law_row (T : Txt G K mg a fd) : Dfn G P w K mg base 4 "_law_row" (a 12) (fd 12) P_law_row f_law_row := by
  refine ⟨sDef T.Flaw_row sc_law_row fun cdv A outer s H E B => ?_, T.Mlaw_row, T.Flaw_row.kp, T.Flaw_row.binds fun _ _ _ _ _ _ us hl => match us, hl with | [_, _, _], _ => rfl⟩
  exact (ssCons (sSet (i := 3) sc_law_row.nd rfl (by first | exact Or.inl rfl | exact Or.inr rfl) (sBin sMul sStr (sCall (d_law_take T) (B.hr.mono (by decide)) B.tk (by rfl) (sACons (sVar 0) (sACons sInt sANil)))))
    (ssCons (sSet (i := 4) sc_law_row.nd rfl (by first | exact Or.inl rfl | exact Or.inr rfl) (sLst sANil))
    (ssCons (sSet (i := 5) sc_law_row.nd rfl (by first | exact Or.inl rfl | exact Or.inr rfl) sNon)
    (ssCons (sFor FUEL B.hp B.calm (sWRng1 (by rfl) T.z_range (sACons (sVar 2) sANil)) (sTgName (i := 6) sc_law_row.nd rfl (by first | exact Or.inl rfl | exact Or.inr rfl))
    (ssCons (sAsg (sCall (d_law_word T) (B.hr.mono (by decide)) B.tk (by rfl) (sACons (sVar 0) sANil)) (sTgUn (by rfl) (sTgCons (sTgName (i := 7) sc_law_row.nd rfl (by first | exact Or.inl rfl | exact Or.inr rfl)) (sTgCons (sTgName (i := 8) sc_law_row.nd rfl (by first | exact Or.inl rfl | exact Or.inr rfl)) sTgNil))))
    (ssOne (sIf (sCmpT sLt (sCb sLen (by rfl) T.z_len (by decide +kernel) (sACons (sVar 3) sANil)) sInt)
    (ssCons (sIf (sW (sWor (sCmpT sGt (sCall (d_law_take T) (B.hr.mono (by decide)) B.tk (by rfl) (sACons (sVar 0) (sACons sInt sANil))) sInt) (sWor1 (sNotT (sTest (sCall (d_law_touches T) (B.hr.mono (by decide)) B.tk (by rfl) (sACons (sVar 7) (sACons (sVar 8) (sACons (sVar 5) sANil)))))))))
    (ssOne (sSet (i := 3) sc_law_row.nd rfl (by first | exact Or.inl rfl | exact Or.inr rfl) (sBin sAdd (sVar 3) (sBin sMul sStr (sBin sAdd sInt (sCall (d_law_take T) (B.hr.mono (by decide)) B.tk (by rfl) (sACons (sVar 0) (sACons sInt sANil))))))))
    ssNil)
    (ssCons (sExpr (sMt PySem.F.plainAttrs_list PySem.F.slot_list_append PySem.F.type_list_append sAppend (sVar 4) (sACons (sLst (sACons (sTup (sACons (sVar 1) (sACons (sBin sAdd (sCb sLen (by rfl) T.z_len (by decide +kernel) (sACons (sVar 3) sANil)) sInt) sANil))) (sACons (sVar 7) (sACons (sVar 8) sANil)))) sANil)))
    (ssCons (sSet (i := 3) sc_law_row.nd rfl (by first | exact Or.inl rfl | exact Or.inr rfl) (sBin sAdd (sVar 3) (sVar 8)))
    (ssOne (sSet (i := 5) sc_law_row.nd rfl (by first | exact Or.inl rfl | exact Or.inr rfl) (sLst (sACons (sVar 7) (sACons (sVar 8) sANil))))))))
    ssNil))))
    (ssCons (sSet (i := 3) sc_law_row.nd rfl (by first | exact Or.inl rfl | exact Or.inr rfl) (sBin sAdd (sVar 3) (sBin sMul sStr (sCall (d_law_take T) (B.hr.mono (by decide)) B.tk (by rfl) (sACons (sVar 0) (sACons sInt sANil))))))
    (ssCons (sIf (sCmpT (sEq B.hr) (sCall (d_law_take T) (B.hr.mono (by decide)) B.tk (by rfl) (sACons (sVar 0) (sACons sInt sANil))) sInt)
    (ssOne (sSet (i := 3) sc_law_row.nd rfl (by first | exact Or.inl rfl | exact Or.inr rfl) (sBin sAdd (sBin sAdd (sVar 3) sStr) (sSub sISeq (sLst (sACons sStr (sACons sStr (sACons sStr (sACons sStr sANil))))) (sCall (d_law_take T) (B.hr.mono (by decide)) B.tk (by rfl) (sACons (sVar 0) (sACons sInt sANil)))))))
    ssNil)
    (ssOne (sRet (sLst (sACons (sVar 3) (sACons (sVar 4) sANil)))))))))))
theorem d_law_rows (T : Txt G K mg a fd) : Dfn G P w K mg base 5 "_law_rows" (a 13) (fd 13) P_law_rows f_law_rows := by
  refine ⟨sDef T.Flaw_rows sc_law_rows fun cdv A outer s H E B => ?_, T.Mlaw_rows, T.Flaw_rows.kp, T.Flaw_rows.binds fun _ _ _ _ _ _ us hl => match us, hl with | [_, _], _ => rfl⟩
  exact (ssCons (sSet (i := 2) sc_law_rows.nd rfl (by first | exact Or.inl rfl | exact Or.inr rfl) (sLst sANil))
    (ssCons (sSet (i := 3) sc_law_rows.nd rfl (by first | exact Or.inl rfl | exact Or.inr rfl) (sLst sANil))
    (ssCons (sFor FUEL B.hp B.calm (sWRng2 (by rfl) T.z_range (sACons sInt (sACons (sBin sAdd (sVar 1) sInt) sANil))) (sTgName (i := 4) sc_law_rows.nd rfl (by first | exact Or.inl rfl | exact Or.inr rfl))
    (ssCons (sAsg (sCall (d_law_row T) (B.hr.mono (by decide)) B.tk (by rfl) (sACons (sVar 0) (sACons (sVar 4) (sACons (sCall (d_law_take T) (B.hr.mono (by decide)) B.tk (by rfl) (sACons (sVar 0) (sACons sInt sANil))) sANil)))) (sTgUn (by rfl) (sTgCons (sTgName (i := 5) sc_law_rows.nd rfl (by first | exact Or.inl rfl | exact Or.inr rfl)) (sTgCons (sTgName (i := 6) sc_law_rows.nd rfl (by first | exact Or.inl rfl | exact Or.inr rfl)) sTgNil))))
    (ssCons (sExpr (sMt PySem.F.plainAttrs_list PySem.F.slot_list_append PySem.F.type_list_append sAppend (sVar 2) (sACons (sVar 5) sANil)))
    (ssOne (sSet (i := 3) sc_law_rows.nd rfl (by first | exact Or.inl rfl | exact Or.inr rfl) (sBin sAdd (sVar 3) (sVar 6)))))))
    (ssOne (sRet (sLst (sACons (sVar 2) (sACons (sVar 3) sANil))))))))
theorem d_law (T : Txt G K mg a fd) : Dfn G P w K mg base 6 "law" (a 14) (fd 14) P_law f_law := by
  refine ⟨sDef T.Flaw sc_law fun cdv A outer s H E B => ?_, T.Mlaw, T.Flaw.kp, T.Flaw.binds fun _ _ _ _ _ _ us hl => match us, hl with | [_], _ => rfl⟩
  exact (ssCons (sFor FUEL B.hp B.calm (sWSeq (sBin sAdd (sSlice sCSeq (sVar 0) sPNone (sPSome sInt)) (sLst (sACons (sCall (d_law_at T) (B.hr.mono (by decide)) B.tk (by rfl) (sACons (sVar 0) (sACons sInt sANil))) sANil)))) (sTgName (i := 1) sc_law.nd rfl (by first | exact Or.inl rfl | exact Or.inr rfl))
    (ssCons (sSet (i := 2) sc_law.nd rfl (by first | exact Or.inl rfl | exact Or.inr rfl) (sCall (d_law_purse T) (B.hr.mono (by decide)) B.tk (by rfl) (sACons (sVar 1) (sACons sInt sANil))))
    (ssCons (sAsg (sCall (d_law_rows T) (B.hr.mono (by decide)) B.tk (by rfl) (sACons (sVar 2) (sACons (sCall (d_law_take T) (B.hr.mono (by decide)) B.tk (by rfl) (sACons (sVar 2) (sACons sInt sANil))) sANil))) (sTgUn (by rfl) (sTgCons (sTgName (i := 3) sc_law.nd rfl (by first | exact Or.inl rfl | exact Or.inr rfl)) (sTgCons (sTgName (i := 4) sc_law.nd rfl (by first | exact Or.inl rfl | exact Or.inr rfl)) sTgNil))))
    (ssCons (sSetLc FUEL (i := 4) (own := [("place", 5), ("sort", 6), ("said", 7)]) (by rfl) sc_law.nd rfl rfl (sw_true rfl rfl rfl (by decide +kernel)) (sWSeq (sVar 4)) (blkOk_by (N := N_law) (sc := defScope s_law) (by decide +kernel)) (fun _ _ _ _ _ => (sTgUn (by rfl) (sTgCons (sTgName (i := 5) sc_law.nd rfl (by first | exact Or.inl rfl | exact Or.inr rfl)) (sTgCons (sTgName (i := 6) sc_law.nd rfl (by first | exact Or.inl rfl | exact Or.inr rfl)) (sTgCons (sTgName (i := 7) sc_law.nd rfl (by first | exact Or.inl rfl | exact Or.inr rfl)) sTgNil))))) (fun _ _ _ _ _ => sPsNil) (fun _ _ _ _ _ => (sTup (sACons (sVar 5) (sACons (sVar 6) (sACons (sVar 7) sANil))))) (kpUn (kpCons (kpName (by decide)) (kpCons (kpName (by decide)) (kpCons (kpName (by decide)) kpNil)))))
    (ssCons (sSet (i := 8) sc_law.nd rfl (by first | exact Or.inl rfl | exact Or.inr rfl) (sCty sListOf (by rfl) T.z_list (by decide +kernel) (sACons (sVar 3) sANil)))
    (ssOne (sFor FUEL B.hp B.calm (sWRng1 (by rfl) T.z_range (sACons sInt sANil)) (sTgName (i := 9) sc_law.nd rfl (by first | exact Or.inl rfl | exact Or.inr rfl))
    (ssCons (sSet (i := 10) sc_law.nd rfl (by first | exact Or.inl rfl | exact Or.inr rfl) (sSub sISeq (sLst (sACons (sCall (d_lexemes T) (B.hr.mono (by decide)) B.tk (by rfl) (sACons (sVar 8) sANil)) (sACons (sCallK0 (d_lexemes T) (kbinds (ks := ["text"]) (na := 0) (nb := 1) (sel := [(true, 0)]) T.Flexemes (by decide) (fun _ _ _ _ _ _ us ws h1 h2 => match us, ws, h1, h2 with | [], [_], _, _ => rfl)) (B.hr.mono (by decide)) B.tk (by rfl) (sKCons (sVar 8) sKNil)) sANil))) (sVar 9)))
    (ssCons (sIf (sW (sWor (sNotT (sTest (sCb sIsi1 (by rfl) T.z_isinstance (by decide +kernel) (sACons (sVar 10) (sACons (sTyName (by rfl) T.z_list (by decide +kernel)) sANil))))) (sWor (sCmpT (sNe B.hr) (sVar 10) (sVar 4)) (sWor1 (sCmpT (sNe B.hr) (sVar 8) (sVar 3))))))
    (ssOne (sRet sBl))
    ssNil)
    (ssCons (sFor FUEL B.hp B.calm (sWSeq (sVar 10)) (sTgUn (by rfl) (sTgCons (sTgName (i := 5) sc_law.nd rfl (by first | exact Or.inl rfl | exact Or.inr rfl)) (sTgCons (sTgName (i := 6) sc_law.nd rfl (by first | exact Or.inl rfl | exact Or.inr rfl)) (sTgCons (sTgName (i := 7) sc_law.nd rfl (by first | exact Or.inl rfl | exact Or.inr rfl)) sTgNil))))
    (ssOne (sIf (sW (sWor (sNotT (sTest (sCb sIsi1 (by rfl) T.z_isinstance (by decide +kernel) (sACons (sVar 5) (sACons (sTyName (by rfl) T.z_tuple (by decide +kernel)) sANil))))) (sWor (sTest (sCb sIsi1 (by rfl) T.z_isinstance (by decide +kernel) (sACons (sSub sISeq (sVar 5) sInt) (sACons (sTyName (by rfl) T.z_bool (by decide +kernel)) sANil)))) (sWor1 (sNotT (sTest (sCb sIsi1 (by rfl) T.z_isinstance (by decide +kernel) (sACons (sVar 7) (sACons (sTyName (by rfl) T.z_str (by decide +kernel)) sANil)))))))))
    (ssOne (sRet sBl))
    ssNil)))
    (ssCons (sExpr (sMt PySem.F.plainAttrs_list PySem.F.slot_list_append PySem.F.type_list_append sAppend (sVar 10) (sACons sStr sANil)))
    (ssOne (sExpr (sMt0 PySem.F.plainAttrs_list PySem.F.slot_list_reverse PySem.F.type_list_reverse sReverse (sVar 10)))))))))))))))
    (ssOne (sRet sBl)))
end
def kts : List (List V) := [k_WORDS, k_SIGNS]
def os0 (b : Bool) (ns : List Int) : List Ob := [.frz b (ns.map V.int), .ktup 0 k_WORDS, .ktup 1 k_SIGNS]
end K01

namespace K01
open PySem PySem.Spec Hf
open L2 (V St atI cutV cutS)
/-! ### run_end -/
theorem run_end_ok {row sg : List Nat} {a n : Nat} {most : V} {S : Sto} (hl : row.length ≤ 1000) (hn : a + n ≤ row.length) (hin : ∀ i, i < n → ∃ c, row[a + i]? = some c ∧ c ∈ sg)
    (hm : most = .non ∨ ∃ k : Nat, most = .int k ∧ n ≤ k) (hs : a + n = row.length ∨ (∃ c, row[a + n]? = some c ∧ c ∉ sg) ∨ most = .int (n : Nat)) :
    Run (f_run_end [.str (tx row), .int (a : Nat), .str (tx sg), most] S) fun v S' => v = .int ((a + n : Nat)) ∧ S' = S := by
  have hz : row.length ≤ sizeLine := small _ hl
  unfold f_run_end m_run_end
  simp only [runS_seq, runS_sb, runS_nx, runS_rt, run_bind, run_ok, run_body, run_call, run_noEx, mSet, mIf, mRet, mExpr, mNext, mAsg, mAug, mFor, gBin, gTest, gAnd, gOr, gNot, gAndV, gOrV, gNotV, gIfE, gCb, gMt, gLst, gTup, gSl, gLc, aCons, aNil, eVar, eC, pSome, pNone, tgName, tgCons, tgNil, L2.start, vInt, vStr, vRef, vBl, Hf.l1, Hf.l2, Option.go, Res.or, List.length_cons, List.length_nil, List.getElem?_cons_zero, List.getElem?_cons_succ, List.set_cons_zero, List.set_cons_succ, List.map_cons, List.map_nil, List.cons_append, List.nil_append, List.replicate, Nat.reduceSub, Nat.reduceAdd, Nat.zero_add, Option.some.injEq, true_and, and_true, if_true, eq_self, Option.some.injEq]
  refine while_run (J := fun k σ S' => ∃ i, i ≤ n ∧ k = n - i ∧ σ = [some (.str (tx row)), some (.int (a : Nat)), some (.str (tx sg)), some most, some (.int (a + i : Nat))] ∧ S' = S) ?_ FUEL n _ _ ⟨0, Nat.zero_le _, rfl, rfl, rfl⟩ (by unfold FUEL; omega)
  rintro k σ S' ⟨i, hi, rfl, rfl, rfl⟩
  by_cases e : a + i < row.length
  · obtain ⟨c, hc⟩ : ∃ c, row[a + i]? = some c := ⟨_, List.getElem?_eq_getElem e⟩
    have e1 : decide (((a + i : Nat) : Int) < (row.length : Int)) = true := decide_eq_true (by omega)
    by_cases e2 : i < n
    · have hcs : decide (c ∈ sg) = true := by
        obtain ⟨c', h1, h2⟩ := hin i e2
        rw [hc] at h1
        cases h1
        exact decide_eq_true h2
      have e5 : ((a + i : Nat) : Int) + 1 = ((a + (i + 1) : Nat) : Int) := by omega
      rcases hm with rfl | ⟨k, rfl, hk⟩
      · simp only [runS_seq, runS_sb, runS_nx, runS_rt, run_bind, run_ok, run_body, run_call, run_noEx, mSet, mIf, mRet, mExpr, mNext, mAsg, mAug, mFor, gBin, gTest, gAnd, gOr, gNot, gAndV, gOrV, gNotV, gIfE, gCb, gMt, gLst, gTup, gSl, gLc, aCons, aNil, eVar, eC, pSome, pNone, tgName, tgCons, tgNil, L2.start, vInt, vStr, vRef, vBl, Hf.l1, Hf.l2, Option.go, Res.or, List.length_cons, List.length_nil, List.getElem?_cons_zero, List.getElem?_cons_succ, List.set_cons_zero, List.set_cons_succ, List.map_cons, List.map_nil, List.cons_append, List.nil_append, List.replicate, Nat.reduceSub, Nat.reduceAdd, Nat.zero_add, Option.some.injEq, true_and, and_true, if_true, eq_self, Option.some.injEq, oLt_int, bLen_tx hz, iSeq_tx hz hc, oIn_tx, e1, hcs, oIsN_eq, vNon]
        refine ⟨fun _ => ?_, fun h => nomatch h⟩
        exact ⟨n - (i + 1), by omega, i + 1, e2, rfl, by rw [← e5], rfl⟩
      · have e4 : decide (((a + i : Nat) : Int) < (a : Int) + (k : Int)) = true := decide_eq_true (by omega)
        simp only [runS_seq, runS_sb, runS_nx, runS_rt, run_bind, run_ok, run_body, run_call, run_noEx, mSet, mIf, mRet, mExpr, mNext, mAsg, mAug, mFor, gBin, gTest, gAnd, gOr, gNot, gAndV, gOrV, gNotV, gIfE, gCb, gMt, gLst, gTup, gSl, gLc, aCons, aNil, eVar, eC, pSome, pNone, tgName, tgCons, tgNil, L2.start, vInt, vStr, vRef, vBl, Hf.l1, Hf.l2, Option.go, Res.or, List.length_cons, List.length_nil, List.getElem?_cons_zero, List.getElem?_cons_succ, List.set_cons_zero, List.set_cons_succ, List.map_cons, List.map_nil, List.cons_append, List.nil_append, List.replicate, Nat.reduceSub, Nat.reduceAdd, Nat.zero_add, Option.some.injEq, true_and, and_true, if_true, eq_self, Option.some.injEq, oLt_int, bLen_tx hz, iSeq_tx hz hc, oIn_tx, e1, hcs, oIsN_eq, vNon, oAdd_int, e4]
        refine ⟨fun _ => ?_, fun h => nomatch h⟩
        exact ⟨n - (i + 1), by omega, i + 1, e2, rfl, by rw [← e5], rfl⟩
    · have ein : i = n := by omega
      subst ein
      by_cases hcs : c ∈ sg
      · rcases hs with h | ⟨c', h1, h2⟩ | rfl
        · omega
        · rw [hc] at h1
          cases h1
          exact absurd hcs h2
        · have e4 : decide (((a + i : Nat) : Int) < (a : Int) + (i : Int)) = false := decide_eq_false (by omega)
          simp only [runS_seq, runS_sb, runS_nx, runS_rt, run_bind, run_ok, run_body, run_call, run_noEx, mSet, mIf, mRet, mExpr, mNext, mAsg, mAug, mFor, gBin, gTest, gAnd, gOr, gNot, gAndV, gOrV, gNotV, gIfE, gCb, gMt, gLst, gTup, gSl, gLc, aCons, aNil, eVar, eC, pSome, pNone, tgName, tgCons, tgNil, L2.start, vInt, vStr, vRef, vBl, Hf.l1, Hf.l2, Option.go, Res.or, List.length_cons, List.length_nil, List.getElem?_cons_zero, List.getElem?_cons_succ, List.set_cons_zero, List.set_cons_succ, List.map_cons, List.map_nil, List.cons_append, List.nil_append, List.replicate, Nat.reduceSub, Nat.reduceAdd, Nat.zero_add, Option.some.injEq, true_and, and_true, if_true, eq_self, Option.some.injEq, oLt_int, bLen_tx hz, iSeq_tx hz hc, oIn_tx, e1, decide_eq_true hcs, oIsN_eq, vNon, oAdd_int, e4]
          exact ⟨fun h => (nomatch h), fun _ => trivial⟩
      · simp only [runS_seq, runS_sb, runS_nx, runS_rt, run_bind, run_ok, run_body, run_call, run_noEx, mSet, mIf, mRet, mExpr, mNext, mAsg, mAug, mFor, gBin, gTest, gAnd, gOr, gNot, gAndV, gOrV, gNotV, gIfE, gCb, gMt, gLst, gTup, gSl, gLc, aCons, aNil, eVar, eC, pSome, pNone, tgName, tgCons, tgNil, L2.start, vInt, vStr, vRef, vBl, Hf.l1, Hf.l2, Option.go, Res.or, List.length_cons, List.length_nil, List.getElem?_cons_zero, List.getElem?_cons_succ, List.set_cons_zero, List.set_cons_succ, List.map_cons, List.map_nil, List.cons_append, List.nil_append, List.replicate, Nat.reduceSub, Nat.reduceAdd, Nat.zero_add, Option.some.injEq, true_and, and_true, if_true, eq_self, Option.some.injEq, oLt_int, bLen_tx hz, iSeq_tx hz hc, oIn_tx, e1, decide_eq_false hcs]
        exact ⟨fun h => (nomatch h), fun _ => trivial⟩
  · have e1 : decide (((a + i : Nat) : Int) < (row.length : Int)) = false := decide_eq_false (by omega)
    have ein : i = n := by omega
    subst ein
    simp only [runS_seq, runS_sb, runS_nx, runS_rt, run_bind, run_ok, run_body, run_call, run_noEx, mSet, mIf, mRet, mExpr, mNext, mAsg, mAug, mFor, gBin, gTest, gAnd, gOr, gNot, gAndV, gOrV, gNotV, gIfE, gCb, gMt, gLst, gTup, gSl, gLc, aCons, aNil, eVar, eC, pSome, pNone, tgName, tgCons, tgNil, L2.start, vInt, vStr, vRef, vBl, Hf.l1, Hf.l2, Option.go, Res.or, List.length_cons, List.length_nil, List.getElem?_cons_zero, List.getElem?_cons_succ, List.set_cons_zero, List.set_cons_succ, List.map_cons, List.map_nil, List.cons_append, List.nil_append, List.replicate, Nat.reduceSub, Nat.reduceAdd, Nat.zero_add, Option.some.injEq, true_and, and_true, if_true, eq_self, Option.some.injEq, oLt_int, bLen_tx hz, e1]
    exact ⟨fun h => (nomatch h), fun _ => trivial⟩

/-! ### lexeme_end -/
def lS : List Nat := k_SMALL.cps.toList
def lG : List Nat := k_GREAT.cps.toList
def lF : List Nat := k_FIGURES.cps.toList
theorem eS : k_SMALL = tx lS := tx_of _
theorem eG : k_GREAT = tx lG := tx_of _
theorem eF : k_FIGURES = tx lF := tx_of _
def signs : List (List Nat) := [[45, 62], [61, 61], [61], [124], [40], [41], [43], [45], [42], [60], [95]]
def words : List (List Nat) := [[100, 97, 116, 97], [108, 101, 116], [105, 110], [105, 102], [116, 104, 101, 110], [101, 108, 115, 101], [99, 97, 115, 101], [111, 102], [102, 117, 110]]
theorem eSigns : k_SIGNS = signs.map fun x => V.str (tx x) := by decide +kernel
theorem eWords : k_WORDS = words.map fun x => V.str (tx x) := by decide +kernel
def dry (rest : List Nat) : Prop := ∀ c, rest.head? = some c → c ∉ lS ∧ c ∉ lG ∧ c ∉ lF
/-- the lexeme w at the head of w ++ rest -/
def TokOK (sort : Str) (w rest : List Nat) : Prop :=
  (sort = (if w ∈ words then ("word" : Str) else "name") ∧ w ≠ [] ∧ w.length ≤ 8 ∧ (∀ c ∈ w, c ∈ lS) ∧ dry rest)
  ∨ (sort = ("maker" : Str) ∧ (∃ g cs, w = g :: cs ∧ g ∈ lG ∧ cs.length ≤ 7 ∧ (∀ c ∈ cs, c ∈ lS)) ∧ dry rest)
  ∨ (sort = ("number" : Str) ∧ (w = [48] ∨ ((∀ c ∈ w, c ∈ lF) ∧ w ≠ [] ∧ w.head? ≠ some 48)) ∧ dry rest)
  ∨ (sort = ("sign" : Str) ∧ ∃ k, signs[k]? = some w ∧ (∀ (j : Nat) (s : List Nat), j < k → signs[j]? = some s → s.isPrefixOf (w ++ rest) = false) ∧ List.isPrefixOf [45, 45] (w ++ rest) = false)
structure Ks (S : Sto) : Prop where
  w : At S 1 (.ktup 0 k_WORDS)
  s : At S 2 (.ktup 1 k_SIGNS)
theorem Ks.fr {M : Nat → Prop} {S S' : Sto} (h : Ks S) (f : Fr M S S') (h1 : ¬ M 1) (h2 : ¬ M 2) : Ks S' := ⟨h.w.fr f h1, h.s.fr f h2⟩
theorem sg_disj : ∀ c ∈ lG, c ∉ lS := by decide +kernel
theorem fg_disj : ∀ c ∈ lF, c ∉ lS ∧ c ∉ lG := by decide +kernel
theorem sgn_disj : ∀ w ∈ signs, ∃ c cs, w = c :: cs ∧ c ∉ lS ∧ c ∉ lG ∧ c ∉ lF := by
  intro w h
  have : ∀ w ∈ signs, (match w with | [] => false | c :: _ => decide (c ∉ lS ∧ c ∉ lG ∧ c ∉ lF)) = true := by decide +kernel
  have z := this w h
  cases w with
  | nil => cases z
  | cons c cs => exact ⟨c, cs, rfl, of_decide_eq_true z⟩
theorem lexeme_end_ok {row w rest : List Nat} {a : Nat} {sort : Str} {S : Sto} (hl : row.length ≤ 1000) (hd : row.drop a = w ++ rest) (ht : TokOK sort w rest) (hk : Ks S) :
    Run (f_lexeme_end [.str (tx row), .int (a : Nat)] S) fun v S' => v = .ref S.n ∧ S' = S.push (.tup [.str sort, .int ((a + w.length : Nat))]) := by
  have hz : row.length ≤ sizeLine := small _ hl
  have hg := drop_get hd
  have hlen : row.length = a + w.length + rest.length ∨ row.length < a := by
    have := congrArg List.length hd
    rw [List.length_drop, List.length_append] at this
    omega
  have g0 := hg 0
  rw [Nat.add_zero] at g0
  have ez : (("0" : Str)) = tx [48] := by decide +kernel
  unfold f_lexeme_end m_lexeme_end
  rcases ht with ⟨hs, hne, h8, hall, hdry⟩ | ⟨hs, ⟨g, cs, rfl, hgr, h7, hall⟩, hdry⟩ | ⟨hs, hw, hdry⟩ | ⟨hs, k, hk1, hk2, hk3⟩
  · obtain ⟨c, hw0⟩ : ∃ c, w[0]? = some c := by
      cases w with
      | nil => exact absurd rfl hne
      | cons c cs => exact ⟨c, rfl⟩
    have hwl : 0 < w.length := List.length_pos_iff.mpr hne
    have hc : row[a]? = some c := by rw [g0, List.getElem?_append_left hwl, hw0]
    have h1 : decide (c ∈ lS) = true := decide_eq_true (hall c (List.mem_of_getElem? hw0))
    have hla : row.length = a + w.length + rest.length := by
      rcases hlen with h | h
      · exact h
      · rw [List.getElem?_eq_none (by omega)] at hc
        cases hc
    have hr := run_end_ok (S := S) (row := row) (sg := lS) (a := a) (n := w.length) (most := .int ((8 : Nat) : Int)) hl (by omega) (fun i hi => ⟨w[i], by rw [hg i, List.getElem?_append_left hi, List.getElem?_eq_getElem hi], hall _ (List.getElem_mem hi)⟩) (.inr ⟨8, rfl, h8⟩) (by
      cases rest with
      | nil => exact .inl (by simpa using hla.symm)
      | cons d ds => exact .inr (.inl ⟨d, by rw [hg, List.getElem?_append_right (Nat.le_refl _), Nat.sub_self]; rfl, (hdry d rfl).1⟩))
    have hcut : (row.drop a).take (a + w.length - a) = w := by
      rw [hd, show a + w.length - a = w.length by omega, List.take_append_of_le_length (Nat.le_refl _), List.take_length]
    simp only [runS_seq, runS_sb, runS_nx, runS_rt, run_bind, run_ok, run_body, run_call, run_noEx, mSet, mIf, mRet, mExpr, mNext, mAsg, mAug, mFor, gBin, gTest, gAnd, gOr, gNot, gAndV, gOrV, gNotV, gIfE, gCb, gMt, gLst, gTup, gSl, gLc, aCons, aNil, eVar, eC, pSome, pNone, tgName, tgCons, tgNil, L2.start, vInt, vStr, vRef, vBl, Hf.l1, Hf.l2, Option.go, Res.or, List.length_cons, List.length_nil, List.getElem?_cons_zero, List.getElem?_cons_succ, List.set_cons_zero, List.set_cons_succ, List.map_cons, List.map_nil, List.cons_append, List.nil_append, List.replicate, Nat.reduceSub, Nat.reduceAdd, Nat.zero_add, Option.some.injEq, true_and, and_true, if_true, eq_self, Option.some.injEq, iSeq_tx hz hc, eS, oIn_tx, h1]
    refine hr.imp fun v S' q => ?_
    obtain ⟨rfl, rfl⟩ := q
    have hw := hk.w.seqK
    rw [eWords] at hw
    by_cases hin : w ∈ words
    · rw [if_pos hin] at hs
      simp only [runS_seq, runS_sb, runS_nx, runS_rt, run_bind, run_ok, run_body, run_call, run_noEx, mSet, mIf, mRet, mExpr, mNext, mAsg, mAug, mFor, gBin, gTest, gAnd, gOr, gNot, gAndV, gOrV, gNotV, gIfE, gCb, gMt, gLst, gTup, gSl, gLc, aCons, aNil, eVar, eC, pSome, pNone, tgName, tgCons, tgNil, L2.start, vInt, vStr, vRef, vBl, Hf.l1, Hf.l2, Option.go, Res.or, List.length_cons, List.length_nil, List.getElem?_cons_zero, List.getElem?_cons_succ, List.set_cons_zero, List.set_cons_succ, List.map_cons, List.map_nil, List.cons_append, List.nil_append, List.replicate, Nat.reduceSub, Nat.reduceAdd, Nat.zero_add, Option.some.injEq, true_and, and_true, if_true, eq_self, Option.some.injEq, cSeq_tx hz (show a ≤ a + w.length by omega) (show a + w.length ≤ row.length by omega), hcut, eK_at hk.w, oIn_txs hw, decide_eq_true hin, run_newT, hs]
      exact small _
    · rw [if_neg hin] at hs
      simp only [runS_seq, runS_sb, runS_nx, runS_rt, run_bind, run_ok, run_body, run_call, run_noEx, mSet, mIf, mRet, mExpr, mNext, mAsg, mAug, mFor, gBin, gTest, gAnd, gOr, gNot, gAndV, gOrV, gNotV, gIfE, gCb, gMt, gLst, gTup, gSl, gLc, aCons, aNil, eVar, eC, pSome, pNone, tgName, tgCons, tgNil, L2.start, vInt, vStr, vRef, vBl, Hf.l1, Hf.l2, Option.go, Res.or, List.length_cons, List.length_nil, List.getElem?_cons_zero, List.getElem?_cons_succ, List.set_cons_zero, List.set_cons_succ, List.map_cons, List.map_nil, List.cons_append, List.nil_append, List.replicate, Nat.reduceSub, Nat.reduceAdd, Nat.zero_add, Option.some.injEq, true_and, and_true, if_true, eq_self, Option.some.injEq, cSeq_tx hz (show a ≤ a + w.length by omega) (show a + w.length ≤ row.length by omega), hcut, eK_at hk.w, oIn_txs hw, decide_eq_false hin, run_newT, hs]
      exact small _
  · have hc : row[a]? = some g := g0
    have h1 : decide (g ∈ lS) = false := decide_eq_false (sg_disj g hgr)
    have h2 : decide (g ∈ lG) = true := decide_eq_true hgr
    generalize hn : (g :: cs).length = n at *
    have hn' : cs.length + 1 = n := hn
    have hla : row.length = a + n + rest.length := by
      rcases hlen with h | h
      · exact h
      · rw [List.getElem?_eq_none (by omega)] at hc
        cases hc
    have hg1 : ∀ i, row[a + 1 + i]? = (cs ++ rest)[i]? := fun i => by
      rw [Nat.add_assoc, Nat.add_comm 1 i, hg]
      rfl
    have hr := run_end_ok (S := S) (row := row) (sg := lS) (a := a + 1) (n := cs.length) (most := .int ((7 : Nat) : Int)) hl (by omega) (fun i hi => ⟨cs[i], by rw [hg1 i, List.getElem?_append_left hi, List.getElem?_eq_getElem hi], hall _ (List.getElem_mem hi)⟩) (.inr ⟨7, rfl, h7⟩) (by
      cases rest with
      | nil => exact .inl (by rw [List.length_nil] at hla; omega)
      | cons d ds => exact .inr (.inl ⟨d, by rw [hg1, List.getElem?_append_right (Nat.le_refl _), Nat.sub_self]; rfl, (hdry d rfl).1⟩))
    simp only [runS_seq, runS_sb, runS_nx, runS_rt, run_bind, run_ok, run_body, run_call, run_noEx, mSet, mIf, mRet, mExpr, mNext, mAsg, mAug, mFor, gBin, gTest, gAnd, gOr, gNot, gAndV, gOrV, gNotV, gIfE, gCb, gMt, gLst, gTup, gSl, gLc, aCons, aNil, eVar, eC, pSome, pNone, tgName, tgCons, tgNil, L2.start, vInt, vStr, vRef, vBl, Hf.l1, Hf.l2, Option.go, Res.or, List.length_cons, List.length_nil, List.getElem?_cons_zero, List.getElem?_cons_succ, List.set_cons_zero, List.set_cons_succ, List.map_cons, List.map_nil, List.cons_append, List.nil_append, List.replicate, Nat.reduceSub, Nat.reduceAdd, Nat.zero_add, Option.some.injEq, true_and, and_true, if_true, eq_self, Option.some.injEq, iSeq_tx hz hc, eS, eG, oIn_tx, h1, h2, oAdd_int, oSub_int]
    refine hr.imp fun v S' q => ?_
    obtain ⟨rfl, rfl⟩ := q
    simp only [runS_seq, runS_sb, runS_nx, runS_rt, run_bind, run_ok, run_body, run_call, run_noEx, mSet, mIf, mRet, mExpr, mNext, mAsg, mAug, mFor, gBin, gTest, gAnd, gOr, gNot, gAndV, gOrV, gNotV, gIfE, gCb, gMt, gLst, gTup, gSl, gLc, aCons, aNil, eVar, eC, pSome, pNone, tgName, tgCons, tgNil, L2.start, vInt, vStr, vRef, vBl, Hf.l1, Hf.l2, Option.go, Res.or, List.length_cons, List.length_nil, List.getElem?_cons_zero, List.getElem?_cons_succ, List.set_cons_zero, List.set_cons_succ, List.map_cons, List.map_nil, List.cons_append, List.nil_append, List.replicate, Nat.reduceSub, Nat.reduceAdd, Nat.zero_add, Option.some.injEq, true_and, and_true, if_true, eq_self, Option.some.injEq, run_newT, hs, show a + 1 + cs.length = a + n by omega]
    exact small _
  · obtain ⟨c, hc, hcf, hwl⟩ : ∃ c, row[a]? = some c ∧ c ∈ lF ∧ 0 < w.length := by
      rcases hw with rfl | ⟨hall, hne, _⟩
      · exact ⟨48, g0, by decide +kernel, by decide⟩
      · obtain ⟨c, cs, rfl⟩ := List.exists_cons_of_ne_nil hne
        exact ⟨c, g0, hall c (List.mem_cons_self ..), by simp⟩
    have h1 : decide (c ∈ lS) = false := decide_eq_false (fg_disj c hcf).1
    have h2 : decide (c ∈ lG) = false := decide_eq_false (fg_disj c hcf).2
    have h3 : decide (c ∈ lF) = true := decide_eq_true hcf
    have hla : row.length = a + w.length + rest.length := by
      rcases hlen with h | h
      · exact h
      · rw [List.getElem?_eq_none (by omega)] at hc
        cases hc
    rcases hw with rfl | ⟨hall, hne, h48⟩
    · rw [g0] at hc
      cases hc
      simp only [runS_seq, runS_sb, runS_nx, runS_rt, run_bind, run_ok, run_body, run_call, run_noEx, mSet, mIf, mRet, mExpr, mNext, mAsg, mAug, mFor, gBin, gTest, gAnd, gOr, gNot, gAndV, gOrV, gNotV, gIfE, gCb, gMt, gLst, gTup, gSl, gLc, aCons, aNil, eVar, eC, pSome, pNone, tgName, tgCons, tgNil, L2.start, vInt, vStr, vRef, vBl, Hf.l1, Hf.l2, Option.go, Res.or, List.length_cons, List.length_nil, List.getElem?_cons_zero, List.getElem?_cons_succ, List.set_cons_zero, List.set_cons_succ, List.map_cons, List.map_nil, List.cons_append, List.nil_append, List.replicate, Nat.reduceSub, Nat.reduceAdd, Nat.zero_add, Option.some.injEq, true_and, and_true, if_true, eq_self, Option.some.injEq, iSeq_tx hz g0, eS, eG, eF, oIn_tx, h1, h2, ez, oEq_tx, oAdd_int, run_newT, hs, decide_true, show (a : Int) + 1 = ((a + 1 : Nat) : Int) by omega]
      exact small _
    · have h0 : decide (tx [c] = tx [48]) = false := decide_eq_false fun e => by
        have e2 := tx_inj e
        cases w with
        | nil => exact absurd rfl hne
        | cons d ds =>
          rw [g0] at hc
          cases hc
          cases e2
          exact h48 rfl
      have hr := run_end_ok (S := S) (row := row) (sg := lF) (a := a) (n := w.length) (most := .non) hl (by omega) (fun i hi => ⟨w[i], by rw [hg i, List.getElem?_append_left hi, List.getElem?_eq_getElem hi], hall _ (List.getElem_mem hi)⟩) (.inl rfl) (by
        cases rest with
        | nil => exact .inl (by simpa using hla.symm)
        | cons d ds => exact .inr (.inl ⟨d, by rw [hg, List.getElem?_append_right (Nat.le_refl _), Nat.sub_self]; rfl, (hdry d rfl).2.2⟩))
      simp only [runS_seq, runS_sb, runS_nx, runS_rt, run_bind, run_ok, run_body, run_call, run_noEx, mSet, mIf, mRet, mExpr, mNext, mAsg, mAug, mFor, gBin, gTest, gAnd, gOr, gNot, gAndV, gOrV, gNotV, gIfE, gCb, gMt, gLst, gTup, gSl, gLc, aCons, aNil, eVar, eC, pSome, pNone, tgName, tgCons, tgNil, L2.start, vInt, vStr, vRef, vBl, Hf.l1, Hf.l2, Option.go, Res.or, List.length_cons, List.length_nil, List.getElem?_cons_zero, List.getElem?_cons_succ, List.set_cons_zero, List.set_cons_succ, List.map_cons, List.map_nil, List.cons_append, List.nil_append, List.replicate, Nat.reduceSub, Nat.reduceAdd, Nat.zero_add, Option.some.injEq, true_and, and_true, if_true, eq_self, Option.some.injEq, iSeq_tx hz hc, eS, eG, eF, oIn_tx, h1, h2, h3, ez, oEq_tx, h0]
      refine hr.imp fun v S' q => ?_
      obtain ⟨rfl, rfl⟩ := q
      simp only [runS_seq, runS_sb, runS_nx, runS_rt, run_bind, run_ok, run_body, run_call, run_noEx, mSet, mIf, mRet, mExpr, mNext, mAsg, mAug, mFor, gBin, gTest, gAnd, gOr, gNot, gAndV, gOrV, gNotV, gIfE, gCb, gMt, gLst, gTup, gSl, gLc, aCons, aNil, eVar, eC, pSome, pNone, tgName, tgCons, tgNil, L2.start, vInt, vStr, vRef, vBl, Hf.l1, Hf.l2, Option.go, Res.or, List.length_cons, List.length_nil, List.getElem?_cons_zero, List.getElem?_cons_succ, List.set_cons_zero, List.set_cons_succ, List.map_cons, List.map_nil, List.cons_append, List.nil_append, List.replicate, Nat.reduceSub, Nat.reduceAdd, Nat.zero_add, Option.some.injEq, true_and, and_true, if_true, eq_self, Option.some.injEq, run_newT, hs]
      exact small _
  · obtain ⟨c, cs, rfl, d1, d2, d3⟩ := sgn_disj w (List.mem_of_getElem? hk1)
    have hc : row[a]? = some c := g0
    generalize hw : (c :: cs) = w at *
    have hla : row.length = a + w.length + rest.length := by
      rcases hlen with h | h
      · exact h
      · rw [List.getElem?_eq_none (by omega)] at hc
        cases hc
    have h1 : decide (c ∈ lS) = false := decide_eq_false d1
    have h2 : decide (c ∈ lG) = false := decide_eq_false d2
    have h3 : decide (c ∈ lF) = false := decide_eq_false d3
    have h0 : decide (tx [c] = tx [48]) = false := decide_eq_false fun e => by
      cases tx_inj e
      exact d3 (by decide +kernel)
    have hs2 := hk.s.tupK
    rw [eSigns] at hs2
    simp only [runS_seq, runS_sb, runS_nx, runS_rt, run_bind, run_ok, run_body, run_call, run_noEx, mSet, mIf, mRet, mExpr, mNext, mAsg, mAug, mFor, gBin, gTest, gAnd, gOr, gNot, gAndV, gOrV, gNotV, gIfE, gCb, gMt, gLst, gTup, gSl, gLc, aCons, aNil, eVar, eC, pSome, pNone, tgName, tgCons, tgNil, L2.start, vInt, vStr, vRef, vBl, Hf.l1, Hf.l2, Option.go, Res.or, List.length_cons, List.length_nil, List.getElem?_cons_zero, List.getElem?_cons_succ, List.set_cons_zero, List.set_cons_succ, List.map_cons, List.map_nil, List.cons_append, List.nil_append, List.replicate, Nat.reduceSub, Nat.reduceAdd, Nat.zero_add, Option.some.injEq, true_and, and_true, if_true, eq_self, Option.some.injEq, iSeq_tx hz hc, eS, eG, eF, oIn_tx, h1, h2, h3, ez, oEq_tx, h0, wTup, eK_at hk.s, hs2]
    have hk4 : k < signs.length := (List.getElem?_eq_some_iff.mp hk1).1
    refine for_run (k + 1) (J := fun i σ S' => i ≤ k ∧ (∃ e x, σ = [some (.str (tx row)), some (.int (a : Nat)), e, x]) ∧ S' = S) ?_ ?_ FUEL 0 _ _ ⟨Nat.zero_le _, ⟨_, _, rfl⟩, rfl⟩ (Nat.zero_le _) (by unfold FUEL; have : signs.length = 11 := rfl; omega)
    · rintro i σ S' hi ⟨hik, ⟨e, x, rfl⟩, rfl⟩
      obtain ⟨s, hs3⟩ : ∃ s, signs[i]? = some s := ⟨_, List.getElem?_eq_getElem (by omega)⟩
      refine ⟨.str (tx s), S', wkn_tup hs2 (by rw [List.getElem?_map, hs3]; rfl), ?_⟩
      have hpre : i < k ∧ s.isPrefixOf (row.drop a) = false ∨ i = k ∧ s = w ∧ s.isPrefixOf (row.drop a) = true := by
        by_cases e : i < k
        · exact .inl ⟨e, by rw [hd]; exact hk2 i s e hs3⟩
        · have e2 : i = k := by omega
          subst e2
          rw [hk1] at hs3
          cases hs3
          exact .inr ⟨rfl, rfl, by rw [hd, List.isPrefixOf_iff_prefix]; exact List.prefix_append ..⟩
      have hty : isTy "str" (.str (tx row)) S' = true := rfl
      rcases hpre with ⟨e1, hp⟩ | ⟨rfl, rfl, hp⟩
      · simp only [runS_seq, runS_sb, runS_nx, runS_rt, run_bind, run_ok, run_body, run_call, run_noEx, mSet, mIf, mRet, mExpr, mNext, mAsg, mAug, mFor, gBin, gTest, gAnd, gOr, gNot, gAndV, gOrV, gNotV, gIfE, gCb, gMt, gLst, gTup, gSl, gLc, aCons, aNil, eVar, eC, pSome, pNone, tgName, tgCons, tgNil, L2.start, vInt, vStr, vRef, vBl, Hf.l1, Hf.l2, Option.go, Res.or, List.length_cons, List.length_nil, List.getElem?_cons_zero, List.getElem?_cons_succ, List.set_cons_zero, List.set_cons_succ, List.map_cons, List.map_nil, List.cons_append, List.nil_append, List.replicate, Nat.reduceSub, Nat.reduceAdd, Nat.zero_add, Option.some.injEq, true_and, and_true, if_true, eq_self, Option.some.injEq, hty, if_true, mStart_tx (show a ≤ row.length by omega), hp]
        exact ⟨by omega, e, some (.str (tx s)), rfl⟩
      · have hsl : s.length ≤ sizeLine := small _ (by omega)
        simp only [runS_seq, runS_sb, runS_nx, runS_rt, run_bind, run_ok, run_body, run_call, run_noEx, mSet, mIf, mRet, mExpr, mNext, mAsg, mAug, mFor, gBin, gTest, gAnd, gOr, gNot, gAndV, gOrV, gNotV, gIfE, gCb, gMt, gLst, gTup, gSl, gLc, aCons, aNil, eVar, eC, pSome, pNone, tgName, tgCons, tgNil, L2.start, vInt, vStr, vRef, vBl, Hf.l1, Hf.l2, Option.go, Res.or, List.length_cons, List.length_nil, List.getElem?_cons_zero, List.getElem?_cons_succ, List.set_cons_zero, List.set_cons_succ, List.map_cons, List.map_nil, List.cons_append, List.nil_append, List.replicate, Nat.reduceSub, Nat.reduceAdd, Nat.zero_add, Option.some.injEq, true_and, and_true, if_true, eq_self, Option.some.injEq, hty, if_true, mStart_tx (show a ≤ row.length by omega), hp, bLen_tx hsl, oAdd_int, run_newT, hs, show (a : Int) + (s.length : Int) = ((a + s.length : Nat) : Int) by omega]
        exact small _
    · rintro σ S' ⟨h, _⟩
      omega

/-! ### row_lexemes -/
abbrev Tok := Nat × Str × List Nat
inductive Lx : List Nat → Nat → List Tok → Prop
  | fin {a : Nat} : Lx [] a []
  | rem {l : List Nat} {a : Nat} : Lx (45 :: 45 :: l) a []
  | blank {l : List Nat} {a : Nat} {ts : List Tok} : Lx l (a + 1) ts → Lx (32 :: l) a ts
  | tok {w rest : List Nat} {a : Nat} {sort : Str} {ts : List Tok} : TokOK sort w rest → Lx rest (a + w.length) ts → Lx (w ++ rest) a ((a + 1, sort, w) :: ts)
theorem TokOK.head {sort : Str} {w rest : List Nat} (h : TokOK sort w rest) : ∃ c cs, w = c :: cs ∧ c ≠ 32 ∧ List.isPrefixOf [45, 45] (w ++ rest) = false ∧ sort ≠ ("none" : Str) ∧ (sort = ("sign" : Str) ∨ sort ≠ ("sign" : Str) ∧ dry rest) := by
  have f1 : ∀ c ∈ lS, c ≠ 32 ∧ c ≠ 45 := by decide +kernel
  have f2 : ∀ c ∈ lG, c ≠ 32 ∧ c ≠ 45 := by decide +kernel
  have f3 : ∀ c ∈ lF, c ≠ 32 ∧ c ≠ 45 := by decide +kernel
  have pre : ∀ (c : Nat) (l : List Nat), c ≠ 45 → List.isPrefixOf [45, 45] (c :: l) = false := fun c l h => by
    show ((45 == c) && _) = false
    rw [beq_eq_false_iff_ne.mpr (Ne.symm h)]
    rfl
  rcases h with ⟨hs, hne, h8, hall, hdry⟩ | ⟨hs, ⟨g, cs, rfl, hgr, h7, hall⟩, hdry⟩ | ⟨hs, hw, hdry⟩ | ⟨hs, k, hk1, hk2, hk3⟩
  · obtain ⟨c, cs, rfl⟩ := List.exists_cons_of_ne_nil hne
    have z := f1 c (hall c (List.mem_cons_self ..))
    refine ⟨c, cs, rfl, z.1, pre _ _ z.2, ?_, ?_⟩
    · rw [hs]
      split <;> decide +kernel
    · refine .inr ⟨?_, hdry⟩
      rw [hs]
      split <;> decide +kernel
  · have z := f2 g hgr
    exact ⟨g, cs, rfl, z.1, pre _ _ z.2, by rw [hs]; decide +kernel, .inr ⟨by rw [hs]; decide +kernel, hdry⟩⟩
  · obtain ⟨c, cs, rfl, hc⟩ : ∃ c cs, w = c :: cs ∧ c ∈ lF := by
      rcases hw with rfl | ⟨hall, hne, _⟩
      · exact ⟨48, [], rfl, by decide +kernel⟩
      · obtain ⟨c, cs, rfl⟩ := List.exists_cons_of_ne_nil hne
        exact ⟨c, cs, rfl, hall c (List.mem_cons_self ..)⟩
    have z := f3 c hc
    exact ⟨c, cs, rfl, z.1, pre _ _ z.2, by rw [hs]; decide +kernel, .inr ⟨by rw [hs]; decide +kernel, hdry⟩⟩
  · have : ∀ w ∈ signs, (match w with | [] => false | c :: _ => decide (c ≠ 32)) = true := by decide +kernel
    have z := this w (List.mem_of_getElem? hk1)
    cases w with
    | nil => cases z
    | cons c cs => exact ⟨c, cs, rfl, of_decide_eq_true z, hk3, by rw [hs]; decide +kernel, .inl hs⟩
def TokAt (S : Sto) (num : Int) (v : V) (t : Tok) : Prop := ∃ x y, v = .ref x ∧ At S x (.tup [.ref y, .str t.2.1, .str (tx t.2.2)]) ∧ At S y (.tup [.int num, .int (t.1 : Nat)])
def Toks (S : Sto) (num : Int) : List V → List Tok → Prop
  | [], [] => True
  | v :: vs, t :: ts => TokAt S num v t ∧ Toks S num vs ts
  | _, _ => False
theorem Toks.snoc {S : Sto} {num : Int} {v : V} {t : Tok} : ∀ {vs : List V} {ts : List Tok}, Toks S num vs ts → TokAt S num v t → Toks S num (vs ++ [v]) (ts ++ [t])
  | [], [], _, h => ⟨h, trivial⟩
  | _ :: _, _ :: _, h, h2 => ⟨h.1, Toks.snoc h.2 h2⟩
theorem Toks.length {S : Sto} {num : Int} : ∀ {vs : List V} {ts : List Tok}, Toks S num vs ts → vs.length = ts.length
  | [], [], _ => rfl
  | _ :: vs, _ :: ts, h => congrArg (· + 1) (Toks.length h.2)
/-- tuples stay -/
def Stay (S S' : Sto) : Prop := ∀ i xs, At S i (.tup xs) → At S' i (.tup xs)
theorem TokAt.stay {S S' : Sto} {num : Int} {v : V} {t : Tok} (h : TokAt S num v t) (f : Stay S S') : TokAt S' num v t := by
  obtain ⟨x, y, e, a, b⟩ := h
  exact ⟨x, y, e, f _ _ a, f _ _ b⟩
theorem Toks.stay {S S' : Sto} {num : Int} (f : Stay S S') : ∀ {vs : List V} {ts : List Tok}, Toks S num vs ts → Toks S' num vs ts
  | [], [], _ => trivial
  | _ :: vs, _ :: ts, h => ⟨h.1.stay f, Toks.stay f h.2⟩
theorem stay_push {S : Sto} {o : Ob} : Stay S (S.push o) := fun _ _ h => h.push
theorem stay_set {S : Sto} {q : Nat} {xs ys : List V} (h : At S q (.lst xs)) : Stay S (S.set q (.lst ys)) := fun i zs hi => hi.set fun e => by
  subst e
  have := h.uniq hi
  cases this
theorem Stay.trans {S S1 S2 : Sto} (a : Stay S S1) (b : Stay S1 S2) : Stay S S2 := fun i xs h => b i xs (a i xs h)
theorem row_lexemes_ok {row : List Nat} {ts : List Tok} {num : Int} {S : Sto} (hl : row.length ≤ 1000) (hx : Lx row 0 ts) (hk : Ks S) :
    Run (f_row_lexemes [.str (tx row), .int num] S) fun v S' => ∃ q xs, v = .ref q ∧ Fr0 S S' ∧ S.n ≤ q ∧ At S' q (.lst xs) ∧ Toks S' num xs ts ∧ xs.length ≤ 1000 := by
  have hz : row.length ≤ sizeLine := small _ hl
  have em : (("--" : Str)) = tx [45, 45] := by decide +kernel
  have eb : ((" " : Str)) = tx [32] := by decide +kernel
  unfold f_row_lexemes m_row_lexemes
  simp only [runS_seq, runS_sb, runS_nx, runS_rt, run_bind, run_ok, run_body, run_call, run_noEx, mSet, mIf, mRet, mExpr, mNext, mAsg, mAug, mFor, gBin, gTest, gAnd, gOr, gNot, gAndV, gOrV, gNotV, gIfE, gCb, gMt, gLst, gTup, gSl, gLc, aCons, aNil, eVar, eC, pSome, pNone, tgName, tgCons, tgNil, L2.start, vInt, vStr, vRef, vBl, Hf.l1, Hf.l2, Option.go, Res.or, List.length_cons, List.length_nil, List.getElem?_cons_zero, List.getElem?_cons_succ, List.set_cons_zero, List.set_cons_succ, List.map_cons, List.map_nil, List.cons_append, List.nil_append, List.replicate, Nat.reduceSub, Nat.reduceAdd, Nat.zero_add, Option.some.injEq, true_and, and_true, if_true, eq_self, Option.some.injEq, run_newL]
  refine ⟨small _, ?_⟩
  refine while_run (J := fun k σ S' => ∃ a dn ts1 xs e4 e5, a ≤ row.length ∧ k = row.length - a ∧ Lx (row.drop a) a ts1 ∧ dn ++ ts1 = ts ∧ σ = [some (.str (tx row)), some (.int num), some (.ref S.n), some (.int (a : Nat)), e4, e5]
    ∧ Fr0 S S' ∧ At S' S.n (.lst xs) ∧ Toks S' num xs dn ∧ xs.length ≤ a) ?_ FUEL row.length _ _ ⟨0, [], ts, [], none, none, Nat.zero_le _, rfl, hx, rfl, rfl, .push, .new, trivial, Nat.le_refl _⟩ (by unfold FUEL; omega)
  rintro k σ S' ⟨a, dn, ts1, xs, e4, e5, ha, rfl, hL, rfl, rfl, hf, hq, ht, hxl⟩
  have hty : isTy "str" (.str (tx row)) S' = true := rfl
  have hq' : isTy "list" (.ref S.n) S' = true := isTy_lst hq
  generalize hd : row.drop a = l at hL
  cases hL with
  | fin =>
    have : row.length = a := by
      have := congrArg List.length hd
      rw [List.length_drop, List.length_nil] at this
      omega
    have e1 : decide (((a : Nat) : Int) < (row.length : Int)) = false := decide_eq_false (by omega)
    simp only [runS_seq, runS_sb, runS_nx, runS_rt, run_bind, run_ok, run_body, run_call, run_noEx, mSet, mIf, mRet, mExpr, mNext, mAsg, mAug, mFor, gBin, gTest, gAnd, gOr, gNot, gAndV, gOrV, gNotV, gIfE, gCb, gMt, gLst, gTup, gSl, gLc, aCons, aNil, eVar, eC, pSome, pNone, tgName, tgCons, tgNil, L2.start, vInt, vStr, vRef, vBl, Hf.l1, Hf.l2, Option.go, Res.or, List.length_cons, List.length_nil, List.getElem?_cons_zero, List.getElem?_cons_succ, List.set_cons_zero, List.set_cons_succ, List.map_cons, List.map_nil, List.cons_append, List.nil_append, List.replicate, Nat.reduceSub, Nat.reduceAdd, Nat.zero_add, Option.some.injEq, true_and, and_true, if_true, eq_self, Option.some.injEq, oLt_int, bLen_tx hz, e1]
    rw [List.append_nil]
    exact ⟨fun h => (nomatch h), fun _ => ⟨_, xs, rfl, hf, Nat.le_refl _, hq, ht, by omega⟩⟩
  | rem =>
    rename_i l
    have : a < row.length := by
      have := congrArg List.length hd
      rw [List.length_drop, List.length_cons] at this
      omega
    have e1 : decide (((a : Nat) : Int) < (row.length : Int)) = true := decide_eq_true (by omega)
    have e2 : List.isPrefixOf [45, 45] (row.drop a) = true := by rw [hd]; rfl
    simp only [runS_seq, runS_sb, runS_nx, runS_rt, run_bind, run_ok, run_body, run_call, run_noEx, mSet, mIf, mRet, mExpr, mNext, mAsg, mAug, mFor, gBin, gTest, gAnd, gOr, gNot, gAndV, gOrV, gNotV, gIfE, gCb, gMt, gLst, gTup, gSl, gLc, aCons, aNil, eVar, eC, pSome, pNone, tgName, tgCons, tgNil, L2.start, vInt, vStr, vRef, vBl, Hf.l1, Hf.l2, Option.go, Res.or, List.length_cons, List.length_nil, List.getElem?_cons_zero, List.getElem?_cons_succ, List.set_cons_zero, List.set_cons_succ, List.map_cons, List.map_nil, List.cons_append, List.nil_append, List.replicate, Nat.reduceSub, Nat.reduceAdd, Nat.zero_add, Option.some.injEq, true_and, and_true, if_true, eq_self, Option.some.injEq, oLt_int, bLen_tx hz, e1, hty, if_true, em, mStart_tx ha, e2, Bool.not_true]
    rw [List.append_nil]
    exact ⟨fun h => (nomatch h), fun _ => ⟨_, xs, rfl, hf, Nat.le_refl _, hq, ht, by omega⟩⟩
  | blank h =>
    rename_i l
    have hg : row[a]? = some 32 := drop_get hd 0
    have : a < row.length := by
      have := congrArg List.length hd
      rw [List.length_drop, List.length_cons] at this
      omega
    have e1 : decide (((a : Nat) : Int) < (row.length : Int)) = true := decide_eq_true (by omega)
    have e2 : List.isPrefixOf [45, 45] (row.drop a) = false := by rw [hd]; rfl
    have hd2 : row.drop (a + 1) = l := by rw [← List.drop_drop, hd]; rfl
    simp only [runS_seq, runS_sb, runS_nx, runS_rt, run_bind, run_ok, run_body, run_call, run_noEx, mSet, mIf, mRet, mExpr, mNext, mAsg, mAug, mFor, gBin, gTest, gAnd, gOr, gNot, gAndV, gOrV, gNotV, gIfE, gCb, gMt, gLst, gTup, gSl, gLc, aCons, aNil, eVar, eC, pSome, pNone, tgName, tgCons, tgNil, L2.start, vInt, vStr, vRef, vBl, Hf.l1, Hf.l2, Option.go, Res.or, List.length_cons, List.length_nil, List.getElem?_cons_zero, List.getElem?_cons_succ, List.set_cons_zero, List.set_cons_succ, List.map_cons, List.map_nil, List.cons_append, List.nil_append, List.replicate, Nat.reduceSub, Nat.reduceAdd, Nat.zero_add, Option.some.injEq, true_and, and_true, if_true, eq_self, Option.some.injEq, oLt_int, bLen_tx hz, e1, hty, if_true, em, mStart_tx ha, e2, Bool.not_false, eb, iSeq_tx hz hg, oEq_tx, decide_true, oAddI_int]
    refine ⟨fun _ => ?_, fun h => (nomatch h)⟩
    exact ⟨row.length - (a + 1), by omega, a + 1, dn, _, xs, e4, e5, this, rfl, by rw [hd2]; exact h, rfl, rfl, hf, hq, ht, by omega⟩
  | tok h1 h2 =>
    rename_i w rest sort ts2
    obtain ⟨c, cs, hw, hc32, hp, hnone, hsg⟩ := h1.head
    have hg := drop_get hd
    have hwl : 0 < w.length := by rw [hw]; exact Nat.succ_pos _
    have hla : row.length = a + w.length + rest.length := by
      have := congrArg List.length hd
      rw [List.length_drop, List.length_append] at this
      omega
    have hc : row[a]? = some c := by
      have := hg 0
      rw [hw] at this
      exact this
    have e1 : decide (((a : Nat) : Int) < (row.length : Int)) = true := decide_eq_true (by omega)
    have e2 : List.isPrefixOf [45, 45] (row.drop a) = false := by rw [hd]; exact hp
    have e3 : decide (tx [c] = tx [32]) = false := decide_eq_false fun e => hc32 (by cases tx_inj e; rfl)
    have hcut : (row.drop a).take (a + w.length - a) = w := by
      rw [hd, show a + w.length - a = w.length by omega, List.take_append_of_le_length (Nat.le_refl _), List.take_length]
    have hd2 : row.drop (a + w.length) = rest := by rw [← List.drop_drop, hd, List.drop_left]
    simp only [runS_seq, runS_sb, runS_nx, runS_rt, run_bind, run_ok, run_body, run_call, run_noEx, mSet, mIf, mRet, mExpr, mNext, mAsg, mAug, mFor, gBin, gTest, gAnd, gOr, gNot, gAndV, gOrV, gNotV, gIfE, gCb, gMt, gLst, gTup, gSl, gLc, aCons, aNil, eVar, eC, pSome, pNone, tgName, tgCons, tgNil, L2.start, vInt, vStr, vRef, vBl, Hf.l1, Hf.l2, Option.go, Res.or, List.length_cons, List.length_nil, List.getElem?_cons_zero, List.getElem?_cons_succ, List.set_cons_zero, List.set_cons_succ, List.map_cons, List.map_nil, List.cons_append, List.nil_append, List.replicate, Nat.reduceSub, Nat.reduceAdd, Nat.zero_add, Option.some.injEq, true_and, and_true, if_true, eq_self, Option.some.injEq, oLt_int, bLen_tx hz, e1, hty, if_true, em, mStart_tx ha, e2, Bool.not_false, eb, iSeq_tx hz hc, oEq_tx, e3]
    refine ⟨fun _ => ?_, fun h => (nomatch h)⟩
    refine (lexeme_end_ok hl hd h1 (hk.fr hf id id)).imp fun v S2 q => ?_
    obtain ⟨rfl, rfl⟩ := q
    have hT : At (S'.push (.tup [.str sort, .int ((a + w.length : Nat))])) S'.n _ := At.new
    have hno : decide (sort = ("none" : Str)) = false := decide_eq_false hnone
    have hq2 : At (S'.push (.tup [.str sort, .int ((a + w.length : Nat))])) S.n (.lst xs) := hq.push
    generalize hS2 : S'.push (.tup [.str sort, .int ((a + w.length : Nat))]) = S2 at *
    have hf2 : Fr0 S S2 := by rw [← hS2]; exact hf.trans .push
    have ht2 : Toks S2 num xs dn := by rw [← hS2]; exact ht.stay stay_push
    have hq3 : At ((S2.push (.tup [.int num, .int ((a : Nat) + 1)])).push (.tup [.ref S2.n, .str sort, .str (tx w)])) S.n (.lst xs) := hq2.push.push
    have hT3 : At ((S2.push (.tup [.int num, .int ((a : Nat) + 1)])).push (.tup [.ref S2.n, .str sort, .str (tx w)])) S2.n (.tup [.int num, .int ((a : Nat) + 1)]) := At.new.push
    have hT4 : At ((S2.push (.tup [.int num, .int ((a : Nat) + 1)])).push (.tup [.ref S2.n, .str sort, .str (tx w)])) (S2.push (.tup [.int num, .int ((a : Nat) + 1)])).n (.tup [.ref S2.n, .str sort, .str (tx w)]) := At.new
    have hf3 : Fr0 S ((S2.push (.tup [.int num, .int ((a : Nat) + 1)])).push (.tup [.ref S2.n, .str sort, .str (tx w)])) := (hf2.trans .push).trans .push
    have ht3 := (ht2.stay (stay_push (o := .tup [.int num, .int ((a : Nat) + 1)]))).stay (stay_push (o := .tup [.ref S2.n, .str sort, .str (tx w)]))
    have hty3 := isTy_lst hq2
    generalize hr3 : (S2.push (.tup [.int num, .int ((a : Nat) + 1)])).n = r3 at *
    generalize hS3 : (S2.push (.tup [.int num, .int ((a : Nat) + 1)])).push (.tup [.ref S2.n, .str sort, .str (tx w)]) = S3 at *
    have hT3' : At S3 S2.n (.tup [.int num, .int ((a + 1 : Nat))]) := by
      rw [show ((a + 1 : Nat) : Int) = (a : Int) + 1 by omega]
      exact hT3
    have hty4 := isTy_lst hq3
    have hfin : ∃ k', k' < row.length - a ∧ ∃ a_5 dn_1 ts1 xs_1 e4 e5, a_5 ≤ row.length ∧ k' = row.length - a_5 ∧ Lx (List.drop a_5 row) a_5 ts1 ∧ dn_1 ++ ts1 = dn ++ (a + 1, sort, w) :: ts2 ∧
        [some (V.str (tx row)), some (V.int num), some (V.ref S.n), some (V.int ((a + w.length : Nat))), some (V.str sort), some (V.int ((a + w.length : Nat)))] = [some (V.str (tx row)), some (V.int num), some (V.ref S.n), some (V.int (a_5 : Nat)), e4, e5] ∧
        Fr0 S (S3.set S.n (.lst (xs ++ [.ref r3]))) ∧ At (S3.set S.n (.lst (xs ++ [.ref r3]))) S.n (Ob.lst xs_1) ∧ Toks (S3.set S.n (.lst (xs ++ [.ref r3]))) num xs_1 dn_1 ∧ xs_1.length ≤ a_5 :=
      ⟨row.length - (a + w.length), by omega, a + w.length, dn ++ [(a + 1, sort, w)], ts2, xs ++ [.ref r3], _, _, by omega, rfl, by rw [hd2]; exact h2, by rw [List.append_assoc]; rfl, rfl, hf3.setNew (.inl (Nat.le_refl _)), hq3.seti,
        (Toks.snoc ht3 ⟨r3, S2.n, rfl, hT4, hT3'⟩).stay (stay_set hq3), by rw [List.length_append, List.length_cons, List.length_nil]; omega⟩
    have hxs : xs.length < sizeLine := Nat.lt_of_le_of_lt (show xs.length ≤ 999 by omega) (small 1000)
    have hcs2 := cSeq_tx (S := S2.push (.tup [.int num, .int ((a : Nat) + 1)])) hz (show a ≤ a + w.length by omega) (show a + w.length ≤ row.length by omega)
    rw [hcut] at hcs2
    have happ := mAppend_at (v := .ref r3) hq3 hxs
    simp only [runS_seq, runS_sb, runS_nx, runS_rt, run_bind, run_ok, run_body, run_call, run_noEx, mSet, mIf, mRet, mExpr, mNext, mAsg, mAug, mFor, gBin, gTest, gAnd, gOr, gNot, gAndV, gOrV, gNotV, gIfE, gCb, gMt, gLst, gTup, gSl, gLc, aCons, aNil, eVar, eC, pSome, pNone, tgName, tgCons, tgNil, L2.start, vInt, vStr, vRef, vBl, Hf.l1, Hf.l2, Option.go, Res.or, List.length_cons, List.length_nil, List.getElem?_cons_zero, List.getElem?_cons_succ, List.set_cons_zero, List.set_cons_succ, List.map_cons, List.map_nil, List.cons_append, List.nil_append, List.replicate, Nat.reduceSub, Nat.reduceAdd, Nat.zero_add, Option.some.injEq, true_and, and_true, if_true, eq_self, Option.some.injEq, unT hT (show [V.str sort, V.int ((a + w.length : Nat))].length = 2 from rfl), oEq_tx, hno, oNe_tx]
    rcases hsg with hsg | ⟨hsg, hdry⟩
    · have d1 : decide (sort = ("sign" : Str)) = true := decide_eq_true hsg
      simp only [runS_seq, runS_sb, runS_nx, runS_rt, run_bind, run_ok, run_body, run_call, run_noEx, mSet, mIf, mRet, mExpr, mNext, mAsg, mAug, mFor, gBin, gTest, gAnd, gOr, gNot, gAndV, gOrV, gNotV, gIfE, gCb, gMt, gLst, gTup, gSl, gLc, aCons, aNil, eVar, eC, pSome, pNone, tgName, tgCons, tgNil, L2.start, vInt, vStr, vRef, vBl, Hf.l1, Hf.l2, Option.go, Res.or, List.length_cons, List.length_nil, List.getElem?_cons_zero, List.getElem?_cons_succ, List.set_cons_zero, List.set_cons_succ, List.map_cons, List.map_nil, List.cons_append, List.nil_append, List.replicate, Nat.reduceSub, Nat.reduceAdd, Nat.zero_add, Option.some.injEq, true_and, and_true, if_true, eq_self, Option.some.injEq, d1, Bool.not_true, hty3, oAdd_int, run_newT, hcs2, hr3, hS3, happ]
      exact ⟨small _, small _, hfin⟩
    · have d1 : decide (sort = ("sign" : Str)) = false := decide_eq_false hsg
      cases rest with
      | nil =>
        have d2 : decide (((a + w.length : Nat) : Int) < (row.length : Int)) = false := decide_eq_false (by rw [List.length_nil] at hla; omega)
        simp only [runS_seq, runS_sb, runS_nx, runS_rt, run_bind, run_ok, run_body, run_call, run_noEx, mSet, mIf, mRet, mExpr, mNext, mAsg, mAug, mFor, gBin, gTest, gAnd, gOr, gNot, gAndV, gOrV, gNotV, gIfE, gCb, gMt, gLst, gTup, gSl, gLc, aCons, aNil, eVar, eC, pSome, pNone, tgName, tgCons, tgNil, L2.start, vInt, vStr, vRef, vBl, Hf.l1, Hf.l2, Option.go, Res.or, List.length_cons, List.length_nil, List.getElem?_cons_zero, List.getElem?_cons_succ, List.set_cons_zero, List.set_cons_succ, List.map_cons, List.map_nil, List.cons_append, List.nil_append, List.replicate, Nat.reduceSub, Nat.reduceAdd, Nat.zero_add, Option.some.injEq, true_and, and_true, if_true, eq_self, Option.some.injEq, d1, Bool.not_false, oLt_int, bLen_tx hz, d2, hty3, oAdd_int, run_newT, hcs2, hr3, hS3, happ]
        exact ⟨small _, small _, hfin⟩
      | cons d ds =>
        have d2 : decide (((a + w.length : Nat) : Int) < (row.length : Int)) = true := decide_eq_true (by rw [List.length_cons] at hla; omega)
        have hgd : row[a + w.length]? = some d := by
          rw [hg, List.getElem?_append_right (Nat.le_refl _), Nat.sub_self]
          rfl
        have z := hdry d rfl
        have d3 : decide (d ∈ lS ++ lG ++ lF) = false := decide_eq_false (by rw [List.mem_append, List.mem_append]; exact fun h => h.elim (fun h => h.elim z.1 z.2.1) z.2.2)
        have l1 : (tx lS).length + (tx lG).length ≤ sizeLine := Nat.le_trans (show _ ≤ 1000 by decide +kernel) (small _)
        have l2 : (tx (lS ++ lG)).length + (tx lF).length ≤ sizeLine := Nat.le_trans (show _ ≤ 1000 by decide +kernel) (small _)
        simp only [runS_seq, runS_sb, runS_nx, runS_rt, run_bind, run_ok, run_body, run_call, run_noEx, mSet, mIf, mRet, mExpr, mNext, mAsg, mAug, mFor, gBin, gTest, gAnd, gOr, gNot, gAndV, gOrV, gNotV, gIfE, gCb, gMt, gLst, gTup, gSl, gLc, aCons, aNil, eVar, eC, pSome, pNone, tgName, tgCons, tgNil, L2.start, vInt, vStr, vRef, vBl, Hf.l1, Hf.l2, Option.go, Res.or, List.length_cons, List.length_nil, List.getElem?_cons_zero, List.getElem?_cons_succ, List.set_cons_zero, List.set_cons_succ, List.map_cons, List.map_nil, List.cons_append, List.nil_append, List.replicate, Nat.reduceSub, Nat.reduceAdd, Nat.zero_add, Option.some.injEq, true_and, and_true, if_true, eq_self, Option.some.injEq, d1, Bool.not_false, oLt_int, bLen_tx hz, d2, iSeq_tx hz hgd, eS, eG, eF, oAdd_str l1, oAdd_str l2, tx_cat, oIn_tx, d3, hty3, oAdd_int, run_newT, hcs2, hr3, hS3, happ]
        exact ⟨small _, small _, hfin⟩

/-! ### lexemes of a text -/
abbrev FTok := Int × Tok
def FTs (S : Sto) : List V → List FTok → Prop
  | [], [] => True
  | v :: vs, t :: ts => TokAt S t.1 v t.2 ∧ FTs S vs ts
  | _, _ => False
theorem FTs.app {S : Sto} : ∀ {vs : List V} {ts : List FTok} {ws : List V} {us : List FTok}, FTs S vs ts → FTs S ws us → FTs S (vs ++ ws) (ts ++ us)
  | [], [], _, _, _, h => h
  | _ :: _, _ :: _, _, _, h, h2 => ⟨h.1, FTs.app h.2 h2⟩
theorem FTs.stay {S S' : Sto} (f : Stay S S') : ∀ {vs : List V} {ts : List FTok}, FTs S vs ts → FTs S' vs ts
  | [], [], _ => trivial
  | _ :: _, _ :: _, h => ⟨h.1.stay f, FTs.stay f h.2⟩
theorem FTs.length {S : Sto} : ∀ {vs : List V} {ts : List FTok}, FTs S vs ts → vs.length = ts.length
  | [], [], _ => rfl
  | _ :: vs, _ :: ts, h => congrArg (· + 1) (FTs.length h.2)
theorem Toks.full {S : Sto} {n : Int} : ∀ {vs : List V} {ts : List Tok}, Toks S n vs ts → FTs S vs (ts.map fun t => (n, t))
  | [], [], _ => trivial
  | _ :: _, _ :: _, h => ⟨h.1, Toks.full h.2⟩
def flat : Int → List (List Tok) → List FTok
  | _, [] => []
  | n, ts :: r => (ts.map fun t => (n, t)) ++ flat (n + 1) r
theorem flat_snoc : ∀ (n : Int) (tss : List (List Tok)) (ts : List Tok), flat n (tss ++ [ts]) = flat n tss ++ ts.map fun t => (n + tss.length, t)
  | n, [], ts => by simp [flat]
  | n, t :: r, ts => by
    rw [List.cons_append, flat, flat_snoc (n + 1) r ts, flat, List.append_assoc, List.length_cons]
    congr 3
    funext t
    congr 1
    omega
theorem fr0_stay {S S' : Sto} (f : Fr0 S S') : Stay S S' := fun _ _ h => h.fr0 f
theorem lexemes_ok {rows : List (List Nat)} {tss : List (List Tok)} {q : Nat} {S : Sto} (hq : At S q (.lst (rows.map fun x => V.str (tx x)))) (hn : rows.length ≤ 10) (hts : tss.length = rows.length)
    (h : ∀ (i : Nat) (row : List Nat) (ts : List Tok), rows[i]? = some row → tss[i]? = some ts → row.length ≤ 1000 ∧ Lx row 0 ts) (hk : Ks S) :
    Run (f_lexemes [.ref q] S) fun v S' => ∃ r xs, v = .ref r ∧ Fr0 S S' ∧ S.n ≤ r ∧ At S' r (.lst xs) ∧ FTs S' xs (flat 1 tss) ∧ xs.length ≤ 10000 := by
  unfold f_lexemes m_lexemes
  simp only [runS_seq, runS_sb, runS_nx, runS_rt, run_bind, run_ok, run_body, run_call, run_noEx, mSet, mIf, mRet, mExpr, mNext, mAsg, mAug, mFor, gBin, gTest, gAnd, gOr, gNot, gAndV, gOrV, gNotV, gIfE, gCb, gMt, gLst, gTup, gSl, gLc, aCons, aNil, eVar, eC, pSome, pNone, tgName, tgCons, tgNil, L2.start, vInt, vStr, vRef, vBl, Hf.l1, Hf.l2, Option.go, Res.or, List.length_cons, List.length_nil, List.getElem?_cons_zero, List.getElem?_cons_succ, List.set_cons_zero, List.set_cons_succ, List.map_cons, List.map_nil, List.cons_append, List.nil_append, List.replicate, Nat.reduceSub, Nat.reduceAdd, Nat.zero_add, Option.some.injEq, true_and, and_true, if_true, eq_self, Option.some.injEq, run_newL, wEnum, hq.push.lstAt]
  refine ⟨small _, ?_⟩
  refine for_run rows.length (J := fun i σ S' => ∃ e1 e2 xs, σ = [some (.ref q), some (.ref S.n), e1, e2] ∧ Fr0 S S' ∧ At S' S.n (.lst xs) ∧ FTs S' xs (flat 1 (tss.take i)) ∧ xs.length ≤ 1000 * i) ?_ ?_ FUEL 0 _ _ ⟨none, none, [], rfl, .push, .new, trivial, Nat.le_refl _⟩ (Nat.zero_le _) (by unfold FUEL; omega)
  · rintro i σ S' hi ⟨e1, e2, xs, rfl, hf, hr, ht, hl⟩
    obtain ⟨row, hrow⟩ : ∃ row, rows[i]? = some row := ⟨_, List.getElem?_eq_getElem hi⟩
    obtain ⟨ts, hts1⟩ : ∃ ts, tss[i]? = some ts := ⟨_, List.getElem?_eq_getElem (by omega)⟩
    obtain ⟨hrl, hL⟩ := h i row ts hrow hts1
    refine ⟨_, _, wkn_enm (hq.fr0 hf).lstAt (show _ = some (V.str (tx row)) by rw [List.getElem?_map, hrow]; rfl), ?_⟩
    simp only [runS_seq, runS_sb, runS_nx, runS_rt, run_bind, run_ok, run_body, run_call, run_noEx, mSet, mIf, mRet, mExpr, mNext, mAsg, mAug, mFor, gBin, gTest, gAnd, gOr, gNot, gAndV, gOrV, gNotV, gIfE, gCb, gMt, gLst, gTup, gSl, gLc, aCons, aNil, eVar, eC, pSome, pNone, tgName, tgCons, tgNil, L2.start, vInt, vStr, vRef, vBl, Hf.l1, Hf.l2, Option.go, Res.or, List.length_cons, List.length_nil, List.getElem?_cons_zero, List.getElem?_cons_succ, List.set_cons_zero, List.set_cons_succ, List.map_cons, List.map_nil, List.cons_append, List.nil_append, List.replicate, Nat.reduceSub, Nat.reduceAdd, Nat.zero_add, Option.some.injEq, true_and, and_true, if_true, eq_self, Option.some.injEq, unT (At.new (S := S') (o := .tup [.int (i : Nat), .str (tx row)])) (show [V.int (i : Nat), V.str (tx row)].length = 2 from rfl), isTy_lst hr.push, oAdd_int]
    refine (row_lexemes_ok hrl hL ((hk.fr hf id id).fr (Fr.push (M := fun _ => False)) id id)).imp fun v S2 z => ?_
    obtain ⟨q2, ys, rfl, hf2, hq2, ha2, ht2, hl2⟩ := z
    have hf3 : Fr0 S' S2 := Fr.push.trans hf2
    have hr2 := hr.fr0 hf3
    have hb : 1000 * i ≤ 9000 := by omega
    simp only [runS_seq, runS_sb, runS_nx, runS_rt, run_bind, run_ok, run_body, run_call, run_noEx, mSet, mIf, mRet, mExpr, mNext, mAsg, mAug, mFor, gBin, gTest, gAnd, gOr, gNot, gAndV, gOrV, gNotV, gIfE, gCb, gMt, gLst, gTup, gSl, gLc, aCons, aNil, eVar, eC, pSome, pNone, tgName, tgCons, tgNil, L2.start, vInt, vStr, vRef, vBl, Hf.l1, Hf.l2, Option.go, Res.or, List.length_cons, List.length_nil, List.getElem?_cons_zero, List.getElem?_cons_succ, List.set_cons_zero, List.set_cons_succ, List.map_cons, List.map_nil, List.cons_append, List.nil_append, List.replicate, Nat.reduceSub, Nat.reduceAdd, Nat.zero_add, Option.some.injEq, true_and, and_true, if_true, eq_self, Option.some.injEq, mExtend_at hr2 ha2 (Nat.le_trans (show _ ≤ 10000 by omega) (Nat.le_of_lt (by decide)))]
    refine ⟨some (.int (i : Nat)), some (.str (tx row)), xs ++ ys, rfl, (hf.trans hf3).setNew (.inl (Nat.le_refl _)), hr2.seti, ?_, by rw [List.length_append]; omega⟩
    refine FTs.stay (stay_set hr2) ?_
    have e : tss.take (i + 1) = tss.take i ++ [ts] := by rw [List.take_add_one, hts1]; rfl
    rw [e, flat_snoc]
    have e2 : (tss.take i).length = i := by rw [List.length_take]; omega
    rw [e2]
    refine (ht.stay (fr0_stay hf3)).app ?_
    rw [show (1 : Int) + (i : Nat) = (i : Nat) + 1 by omega]
    exact ht2.full
  · rintro σ S' ⟨e1, e2, xs, rfl, hf, hr, ht, hl⟩
    refine ⟨wk_enm0 (hq.fr0 hf).lstAt (by rw [List.length_map]; exact Nat.le_refl _), ?_⟩
    simp only [runS_seq, runS_sb, runS_nx, runS_rt, run_bind, run_ok, run_body, run_call, run_noEx, mSet, mIf, mRet, mExpr, mNext, mAsg, mAug, mFor, gBin, gTest, gAnd, gOr, gNot, gAndV, gOrV, gNotV, gIfE, gCb, gMt, gLst, gTup, gSl, gLc, aCons, aNil, eVar, eC, pSome, pNone, tgName, tgCons, tgNil, L2.start, vInt, vStr, vRef, vBl, Hf.l1, Hf.l2, Option.go, Res.or, List.length_cons, List.length_nil, List.getElem?_cons_zero, List.getElem?_cons_succ, List.set_cons_zero, List.set_cons_succ, List.map_cons, List.map_nil, List.cons_append, List.nil_append, List.replicate, Nat.reduceSub, Nat.reduceAdd, Nat.zero_add, Option.some.injEq, true_and, and_true, if_true, eq_self, Option.some.injEq]
    rw [List.take_of_length_le (by omega)] at ht
    exact ⟨S.n, xs, rfl, hf, Nat.le_refl _, hr, ht, by omega⟩

/-! ### the purse -/
theorem p18 {S : Sto} : oPowI (.int 10) (.int 18) S = .ok (.int 1000000000000000000) S := rfl
theorem p60 {S : Sto} : oPowI (.int 10) (.int 60) S = .ok (.int (10 ^ 60)) S := rfl
theorem p600 {S : Sto} : oPowI (.int (10 ^ 60)) (.int 10) S = .ok (.int (10 ^ 600)) S := by
  show (if cPowW (10 ^ 60) 10 = true then Res.ok (V.int ((10 ^ 60) ^ (10 : Int).toNat)) S else .no) = _
  rw [if_pos (by decide +kernel), show ((10 : Int) ^ 60) ^ (10 : Int).toNat = 10 ^ 600 by decide +kernel]
theorem law_mixed_ok {cell k : Int} {S : Sto} (h1 : -1000000 ≤ k) (h2 : k ≤ 1000000) : Run (f_law_mixed [.int cell, .int k] S) fun v S' => S' = S ∧ ∃ r, v = .int r ∧ 0 ≤ r ∧ r < 10 ^ 60 + 7 := by
  unfold f_law_mixed m_law_mixed
  have a1 : (0 : Int) ≤ cell % (1000000000000000000 + 9) := Int.emod_nonneg _ (by decide)
  have a2 : cell % (1000000000000000000 + 9) < 1000000000000000000 + 9 := Int.emod_lt_of_pos _ (by decide)
  generalize hx : cell % (1000000000000000000 + 9) = x at *
  simp only [runS_seq, runS_sb, runS_nx, runS_rt, run_bind, run_ok, run_body, run_call, run_noEx, mSet, mIf, mRet, mExpr, mNext, mAsg, mAug, mFor, gBin, gTest, gAnd, gOr, gNot, gAndV, gOrV, gNotV, gIfE, gCb, gMt, gLst, gTup, gSl, gLc, aCons, aNil, eVar, eC, pSome, pNone, tgName, tgCons, tgNil, L2.start, vInt, vStr, vRef, vBl, Hf.l1, Hf.l2, Option.go, Res.or, List.length_cons, List.length_nil, List.getElem?_cons_zero, List.getElem?_cons_succ, List.set_cons_zero, List.set_cons_succ, List.map_cons, List.map_nil, List.cons_append, List.nil_append, List.replicate, Nat.reduceSub, Nat.reduceAdd, Nat.zero_add, Option.some.injEq, true_and, and_true, if_true, eq_self, Option.some.injEq, oAdd_int, p18, p60, oMod_int (show (0 : Int) < 1000000000000000000 + 9 by decide), hx, mul_ok (i := 7) (j := k) (by omega) (by omega) (by omega) (by omega), mul_ok (i := 7919) (j := k) (by omega) (by omega) (by omega) (by omega),
    mul_ok (i := x + 7 * k) (j := 739108512309184756019283746561) (by omega) (by omega) (by omega) (by omega)]
  generalize hy : (x + 7 * k) * 739108512309184756019283746561 + 7919 * k + 1 = y
  have b1 : -(10 ^ 60) < y := by omega
  have b2 : y < 10 ^ 60 := by omega
  simp only [mul_ok (i := y) (j := y) (by omega) (by omega) (by omega) (by omega), run_ok, oMod_int (show (0 : Int) < 10 ^ 60 + 7 by decide)]
  have c1 : (0 : Int) ≤ y * y % (10 ^ 60 + 7) := Int.emod_nonneg _ (by decide)
  have c2 : y * y % (10 ^ 60 + 7) < 10 ^ 60 + 7 := Int.emod_lt_of_pos _ (by decide)
  generalize hz : y * y % (10 ^ 60 + 7) = z at *
  simp only [runS_seq, runS_sb, runS_nx, runS_rt, run_bind, run_ok, run_body, run_call, run_noEx, mSet, mIf, mRet, mExpr, mNext, mAsg, mAug, mFor, gBin, gTest, gAnd, gOr, gNot, gAndV, gOrV, gNotV, gIfE, gCb, gMt, gLst, gTup, gSl, gLc, aCons, aNil, eVar, eC, pSome, pNone, tgName, tgCons, tgNil, L2.start, vInt, vStr, vRef, vBl, Hf.l1, Hf.l2, Option.go, Res.or, List.length_cons, List.length_nil, List.getElem?_cons_zero, List.getElem?_cons_succ, List.set_cons_zero, List.set_cons_succ, List.map_cons, List.map_nil, List.cons_append, List.nil_append, List.replicate, Nat.reduceSub, Nat.reduceAdd, Nat.zero_add, Option.some.injEq, true_and, and_true, if_true, eq_self, Option.some.injEq, oAdd_int, mul_ok (i := z + 40503) (j := z + 57) (by omega) (by omega) (by omega) (by omega), p60, oMod_int (show (0 : Int) < 10 ^ 60 + 7 by decide)]
  exact ⟨_, rfl, Int.emod_nonneg _ (by decide), Int.emod_lt_of_pos _ (by decide)⟩
structure Pu (S : Sto) (p : Nat) (k : Int) : Prop where
  ex : ∃ a b c, At S p (.lst [.int a, .int b, .int c]) ∧ 0 ≤ a ∧ a < 10 ^ 600 ∧ 0 ≤ b ∧ b ≤ k ∧ -(10 ^ 20) ≤ c ∧ c ≤ 10 ^ 20
theorem Pu.mono {S : Sto} {p : Nat} {k k' : Int} (h : Pu S p k) (l : k ≤ k') : Pu S p k' := by
  obtain ⟨a, b, c, h1, h2, h3, h4, h5, h6⟩ := h.ex
  exact ⟨a, b, c, h1, h2, h3, h4, by omega, h6⟩
theorem Pu.fr {S S' : Sto} {p : Nat} {k : Int} {M : Nat → Prop} (h : Pu S p k) (f : Fr M S S') (n : ¬ M p) : Pu S' p k := by
  obtain ⟨a, b, c, h1, h2, h3, h4, h5, h6⟩ := h.ex
  exact ⟨a, b, c, h1.fr f n, h2, h3, h4, h5, h6⟩
theorem Pu.lt {S : Sto} {p : Nat} {k : Int} (h : Pu S p k) : p < S.n := by
  obtain ⟨a, b, c, h1, _⟩ := h.ex
  exact h1.lt
theorem Pu.stay {S S' : Sto} {p : Nat} {k : Int} (h : Pu S p k) (f : Fr1 p S S') : Stay S S' := by
  obtain ⟨a, b, c, h1, _⟩ := h.ex
  exact fun i xs hi => hi.fr f fun e => by
    subst e
    cases h1.uniq hi
theorem law_purse_ok {cell : Int} {S : Sto} : Run (f_law_purse [.int cell, .int 1] S) fun v S' => v = .ref S.n ∧ Fr0 S S' ∧ Pu S' S.n 0 := by
  unfold f_law_purse m_law_purse
  by_cases h : 1000000000000000000 ≤ cell
  · have d : decide ((1000000000000000000 : Int) ≤ cell) = true := decide_eq_true h
    simp only [runS_seq, runS_sb, runS_nx, runS_rt, run_bind, run_ok, run_body, run_call, run_noEx, mSet, mIf, mRet, mExpr, mNext, mAsg, mAug, mFor, gBin, gTest, gAnd, gOr, gNot, gAndV, gOrV, gNotV, gIfE, gCb, gMt, gLst, gTup, gSl, gLc, aCons, aNil, eVar, eC, pSome, pNone, tgName, tgCons, tgNil, L2.start, vInt, vStr, vRef, vBl, Hf.l1, Hf.l2, Option.go, Res.or, List.length_cons, List.length_nil, List.getElem?_cons_zero, List.getElem?_cons_succ, List.set_cons_zero, List.set_cons_succ, List.map_cons, List.map_nil, List.cons_append, List.nil_append, List.replicate, Nat.reduceSub, Nat.reduceAdd, Nat.zero_add, Option.some.injEq, true_and, and_true, if_true, eq_self, Option.some.injEq, p18, oGe_int, d, oSub_int, p60, p600, oMod_int (show (0 : Int) < 10 ^ 600 by decide +kernel), run_newL]
    exact ⟨small _, .push, _, _, _, At.new, Int.emod_nonneg _ (by decide +kernel), Int.emod_lt_of_pos _ (by decide +kernel), by decide, by decide, by decide, by decide⟩
  · have d : decide ((1000000000000000000 : Int) ≤ cell) = false := decide_eq_false h
    simp only [runS_seq, runS_sb, runS_nx, runS_rt, run_bind, run_ok, run_body, run_call, run_noEx, mSet, mIf, mRet, mExpr, mNext, mAsg, mAug, mFor, gBin, gTest, gAnd, gOr, gNot, gAndV, gOrV, gNotV, gIfE, gCb, gMt, gLst, gTup, gSl, gLc, aCons, aNil, eVar, eC, pSome, pNone, tgName, tgCons, tgNil, L2.start, vInt, vStr, vRef, vBl, Hf.l1, Hf.l2, Option.go, Res.or, List.length_cons, List.length_nil, List.getElem?_cons_zero, List.getElem?_cons_succ, List.set_cons_zero, List.set_cons_succ, List.map_cons, List.map_nil, List.cons_append, List.nil_append, List.replicate, Nat.reduceSub, Nat.reduceAdd, Nat.zero_add, Option.some.injEq, true_and, and_true, if_true, eq_self, Option.some.injEq, p18, oGe_int, d]
    refine (law_mixed_ok (by decide) (by decide)).imp fun v S' z => ?_
    obtain ⟨rfl, r, rfl, r1, r2⟩ := z
    have a1 : (0 : Int) ≤ cell % (1000000000000000000 + 9) := Int.emod_nonneg _ (by decide)
    have a2 : cell % (1000000000000000000 + 9) < 1000000000000000000 + 9 := Int.emod_lt_of_pos _ (by decide)
    simp only [runS_seq, runS_sb, runS_nx, runS_rt, run_bind, run_ok, run_body, run_call, run_noEx, mSet, mIf, mRet, mExpr, mNext, mAsg, mAug, mFor, gBin, gTest, gAnd, gOr, gNot, gAndV, gOrV, gNotV, gIfE, gCb, gMt, gLst, gTup, gSl, gLc, aCons, aNil, eVar, eC, pSome, pNone, tgName, tgCons, tgNil, L2.start, vInt, vStr, vRef, vBl, Hf.l1, Hf.l2, Option.go, Res.or, List.length_cons, List.length_nil, List.getElem?_cons_zero, List.getElem?_cons_succ, List.set_cons_zero, List.set_cons_succ, List.map_cons, List.map_nil, List.cons_append, List.nil_append, List.replicate, Nat.reduceSub, Nat.reduceAdd, Nat.zero_add, Option.some.injEq, true_and, and_true, if_true, eq_self, Option.some.injEq, p18, oAdd_int, oMod_int (show (0 : Int) < 1000000000000000000 + 9 by decide), run_newL]
    exact ⟨small _, .push, _, _, _, At.new, r1, by omega, by decide, by decide, by omega, by omega⟩
theorem law_take_ok {p : Nat} {k steps : Int} {S : Sto} (h : Pu S p k) (hk : k ≤ 10000) (h1 : 1 ≤ steps) (h2 : steps ≤ 100) :
    Run (f_law_take [.ref p, .int steps] S) fun v S' => ∃ g, v = .int g ∧ 0 ≤ g ∧ g < steps ∧ Fr1 p S S' ∧ Pu S' p (k + 1) ∧ S'.n = S.n := by
  obtain ⟨a, b, c, hp, a1, a2, b1, b2, c1, c2⟩ := h.ex
  have i0 : ∀ {x y z : V}, L2.atI [x, y, z] 0 = some x := rfl
  have i1 : ∀ {x y z : V}, L2.atI [x, y, z] 1 = some y := rfl
  have i2 : ∀ {x y z : V}, L2.atI [x, y, z] 2 = some z := rfl
  have j0 : ∀ {x y z : V}, L2.ixN [x, y, z].length 0 = some 0 := rfl
  have j1 : ∀ {x y z : V}, L2.ixN [x, y, z].length 1 = some 1 := rfl
  unfold f_law_take m_law_take
  have hpos : (0 : Int) < steps := by omega
  have hlog : steps.natAbs.log2 < 9000 := Nat.lt_of_le_of_lt (Nat.log2_le_self _) (by omega)
  by_cases e : a < steps
  · have d : decide (a < steps) = true := decide_eq_true e
    simp only [runS_seq, runS_sb, runS_nx, runS_rt, run_bind, run_ok, run_body, run_call, run_noEx, mSet, mIf, mRet, mExpr, mNext, mAsg, mAug, mFor, gBin, gTest, gAnd, gOr, gNot, gAndV, gOrV, gNotV, gIfE, gCb, gMt, gLst, gTup, gSl, gLc, aCons, aNil, eVar, eC, pSome, pNone, tgName, tgCons, tgNil, L2.start, vInt, vStr, vRef, vBl, Hf.l1, Hf.l2, Option.go, Res.or, List.length_cons, List.length_nil, List.getElem?_cons_zero, List.getElem?_cons_succ, List.set_cons_zero, List.set_cons_succ, List.map_cons, List.map_nil, List.cons_append, List.nil_append, List.replicate, Nat.reduceSub, Nat.reduceAdd, Nat.zero_add, Option.some.injEq, true_and, and_true, if_true, eq_self, Option.some.injEq, tgSub, iSeq_lst hp i0, iSeq_lst hp i1, oLt_int, d, oAdd_int, stLst_at hp j1]
    have hp2 := hp.seti (o' := .lst [.int a, .int (b + 1), .int c])
    have hf2 : Fr1 p S (S.set p (.lst [.int a, .int (b + 1), .int c])) := .set (.inr rfl)
    have hn2 : (S.set p (.lst [.int a, .int (b + 1), .int c])).n = S.n := rfl
    generalize S.set p (.lst [.int a, .int (b + 1), .int c]) = S2 at *
    simp only [runS_seq, runS_sb, runS_nx, runS_rt, run_bind, run_ok, run_body, run_call, run_noEx, mSet, mIf, mRet, mExpr, mNext, mAsg, mAug, mFor, gBin, gTest, gAnd, gOr, gNot, gAndV, gOrV, gNotV, gIfE, gCb, gMt, gLst, gTup, gSl, gLc, aCons, aNil, eVar, eC, pSome, pNone, tgName, tgCons, tgNil, L2.start, vInt, vStr, vRef, vBl, Hf.l1, Hf.l2, Option.go, Res.or, List.length_cons, List.length_nil, List.getElem?_cons_zero, List.getElem?_cons_succ, List.set_cons_zero, List.set_cons_succ, List.map_cons, List.map_nil, List.cons_append, List.nil_append, List.replicate, Nat.reduceSub, Nat.reduceAdd, Nat.zero_add, Option.some.injEq, true_and, and_true, if_true, eq_self, Option.some.injEq, iSeq_lst hp2 i0, iSeq_lst hp2 i1, iSeq_lst hp2 i2, mul_ok (i := 11) (j := b + 1) (by omega) (by omega) (by omega) (by omega), oAdd_int]
    refine (law_mixed_ok (by omega) (by omega)).imp fun v S' z => ?_
    obtain ⟨rfl, r, rfl, r1, r2⟩ := z
    have r3 : 0 ≤ steps * r := Int.mul_nonneg (by omega) r1
    have r4 : steps * r ≤ 100 * r := Int.mul_le_mul_of_nonneg_right h2 r1
    simp only [runS_seq, runS_sb, runS_nx, runS_rt, run_bind, run_ok, run_body, run_call, run_noEx, mSet, mIf, mRet, mExpr, mNext, mAsg, mAug, mFor, gBin, gTest, gAnd, gOr, gNot, gAndV, gOrV, gNotV, gIfE, gCb, gMt, gLst, gTup, gSl, gLc, aCons, aNil, eVar, eC, pSome, pNone, tgName, tgCons, tgNil, L2.start, vInt, vStr, vRef, vBl, Hf.l1, Hf.l2, Option.go, Res.or, List.length_cons, List.length_nil, List.getElem?_cons_zero, List.getElem?_cons_succ, List.set_cons_zero, List.set_cons_succ, List.map_cons, List.map_nil, List.cons_append, List.nil_append, List.replicate, Nat.reduceSub, Nat.reduceAdd, Nat.zero_add, Option.some.injEq, true_and, and_true, if_true, eq_self, Option.some.injEq, mul_ok (i := steps) (j := r) (by omega) (by omega) (by omega) (by omega), oAdd_int, stLst_at hp2 j0]
    generalize hm : a + steps * r = m
    have hp3 := hp2.seti (o' := .lst [.int m, .int (b + 1), .int c])
    have hf3 : Fr1 p S (S'.set p (.lst [.int m, .int (b + 1), .int c])) := hf2.trans (.set (.inr rfl))
    have hn3 : (S'.set p (.lst [.int m, .int (b + 1), .int c])).n = S.n := hn2
    generalize S'.set p (.lst [.int m, .int (b + 1), .int c]) = S3 at *
    simp only [runS_seq, runS_sb, runS_nx, runS_rt, run_bind, run_ok, run_body, run_call, run_noEx, mSet, mIf, mRet, mExpr, mNext, mAsg, mAug, mFor, gBin, gTest, gAnd, gOr, gNot, gAndV, gOrV, gNotV, gIfE, gCb, gMt, gLst, gTup, gSl, gLc, aCons, aNil, eVar, eC, pSome, pNone, tgName, tgCons, tgNil, L2.start, vInt, vStr, vRef, vBl, Hf.l1, Hf.l2, Option.go, Res.or, List.length_cons, List.length_nil, List.getElem?_cons_zero, List.getElem?_cons_succ, List.set_cons_zero, List.set_cons_succ, List.map_cons, List.map_nil, List.cons_append, List.nil_append, List.replicate, Nat.reduceSub, Nat.reduceAdd, Nat.zero_add, Option.some.injEq, true_and, and_true, if_true, eq_self, Option.some.injEq, iSeq_lst hp3 i0, oMod_int hpos, oDiv_int hpos hlog, stLst_at hp3 j0]
    refine ⟨_, rfl, Int.emod_nonneg _ (by omega), Int.emod_lt_of_pos _ hpos, hf3.trans (.set (.inr rfl)), ⟨_, _, _, hp3.seti, Int.ediv_nonneg (by omega) (by omega), ?_, by omega, by omega, c1, c2⟩, hn3⟩
    have : m / steps ≤ m := Int.ediv_le_self _ (by omega)
    omega
  · have d : decide (a < steps) = false := decide_eq_false e
    simp only [runS_seq, runS_sb, runS_nx, runS_rt, run_bind, run_ok, run_body, run_call, run_noEx, mSet, mIf, mRet, mExpr, mNext, mAsg, mAug, mFor, gBin, gTest, gAnd, gOr, gNot, gAndV, gOrV, gNotV, gIfE, gCb, gMt, gLst, gTup, gSl, gLc, aCons, aNil, eVar, eC, pSome, pNone, tgName, tgCons, tgNil, L2.start, vInt, vStr, vRef, vBl, Hf.l1, Hf.l2, Option.go, Res.or, List.length_cons, List.length_nil, List.getElem?_cons_zero, List.getElem?_cons_succ, List.set_cons_zero, List.set_cons_succ, List.map_cons, List.map_nil, List.cons_append, List.nil_append, List.replicate, Nat.reduceSub, Nat.reduceAdd, Nat.zero_add, Option.some.injEq, true_and, and_true, if_true, eq_self, Option.some.injEq, tgSub, iSeq_lst hp i0, oLt_int, d, oMod_int hpos, oDiv_int hpos hlog, stLst_at hp j0]
    refine ⟨_, rfl, Int.emod_nonneg _ (by omega), Int.emod_lt_of_pos _ hpos, .set (.inr rfl), ⟨_, _, _, hp.seti, Int.ediv_nonneg a1 (by omega), ?_, b1, by omega, c1, c2⟩, rfl⟩
    have : a / steps ≤ a := Int.ediv_le_self _ a1
    omega

/-! ### the words that are drawn -/
def Good (sort : Str) (w : List Nat) : Prop :=
  (sort = (if w ∈ words then ("word" : Str) else "name") ∧ w ≠ [] ∧ w.length ≤ 8 ∧ (∀ c ∈ w, c ∈ lS))
  ∨ (sort = ("maker" : Str) ∧ (∃ g cs, w = g :: cs ∧ g ∈ lG ∧ cs.length ≤ 7 ∧ (∀ c ∈ cs, c ∈ lS)))
  ∨ (sort = ("number" : Str) ∧ w.length ≤ 30 ∧ (w = [48] ∨ ((∀ c ∈ w, c ∈ lF) ∧ w ≠ [] ∧ w.head? ≠ some 48)))
  ∨ (sort = ("sign" : Str) ∧ w ∈ signs)
def Aft (sort : Str) (w rest : List Nat) : Prop :=
  (sort ≠ ("sign" : Str) → dry rest) ∧ (sort = ("sign" : Str) → (w = [45] → rest.head? ≠ some 62 ∧ rest.head? ≠ some 45) ∧ (w = [61] → rest.head? ≠ some 61))
theorem Good.len {sort : Str} {w : List Nat} (h : Good sort w) : w.length ≤ 30 := by
  rcases h with ⟨_, _, h, _⟩ | ⟨_, g, cs, rfl, _, h, _⟩ | ⟨_, h, _⟩ | ⟨_, h⟩
  · omega
  · rw [List.length_cons]; omega
  · exact h
  · exact (show ∀ w ∈ signs, w.length ≤ 30 by decide +kernel) w h
theorem ns1 : (("word" : Str)) ≠ "sign" := by decide +kernel
theorem ns2 : (("name" : Str)) ≠ "sign" := by decide +kernel
theorem ns3 : (("maker" : Str)) ≠ "sign" := by decide +kernel
theorem ns4 : (("number" : Str)) ≠ "sign" := by decide +kernel
/-- which signs may stand before what -/
def sigB (k : Nat) (w : List Nat) : Bool := signs[k]? == some w && (List.range k).all fun j => match signs[j]? with
  | some s => !(s.isPrefixOf w) && (!(w.isPrefixOf s) || w == [45] || w == [61])
  | none => false
theorem pre_app {s w rest : List Nat} (h : s.isPrefixOf (w ++ rest) = true) : s.isPrefixOf w = true ∨ w.isPrefixOf s = true := by
  rw [List.isPrefixOf_iff_prefix] at h ⊢
  rw [List.isPrefixOf_iff_prefix]
  exact List.prefix_or_prefix_of_prefix h (List.prefix_append ..)
theorem Good.ok {sort : Str} {w rest : List Nat} (h : Good sort w) (ha : Aft sort w rest) : TokOK sort w rest := by
  rcases h with ⟨h1, h2, h3, h4⟩ | ⟨h1, h2⟩ | ⟨h1, h2, h3⟩ | ⟨h1, h2⟩
  · refine .inl ⟨h1, h2, h3, h4, ha.1 ?_⟩
    rw [h1]
    split
    · exact ns1
    · exact ns2
  · exact .inr (.inl ⟨h1, h2, ha.1 (by rw [h1]; exact ns3)⟩)
  · exact .inr (.inr (.inl ⟨h1, h3, ha.1 (by rw [h1]; exact ns4)⟩))
  · refine .inr (.inr (.inr ⟨h1, ?_⟩))
    obtain ⟨k, hk, e⟩ : ∃ k, k < 11 ∧ sigB k w = true := by
      have : ∀ w ∈ signs, ∃ k, k < 11 ∧ sigB k w = true := by decide +kernel
      exact this w h2
    have z := Bool.and_eq_true_iff.mp e
    obtain ⟨z1, z2⟩ := ha.2 h1
    refine ⟨k, by simpa using z.1, fun j s hj hs => ?_, ?_⟩
    · have y := List.all_eq_true.mp z.2 j (List.mem_range.mpr hj)
      rw [hs] at y
      simp only [Bool.and_eq_true, Bool.or_eq_true, Bool.not_eq_true', beq_iff_eq] at y
      rw [Bool.eq_false_iff]
      intro hp
      rcases pre_app hp with q | q
      · rw [q] at y; exact nomatch y.1
      · rcases y.2 with (y2 | y2) | y2
        · rw [q] at y2; cases y2
        · subst y2
          have hsig : s = [45, 62] := by
            have : ∀ s ∈ signs, List.isPrefixOf [45] s = true → s = [45, 62] ∨ s = [45] := by decide +kernel
            rcases this s (List.mem_of_getElem? hs) q with e | e
            · exact e
            · subst e; cases y.1
          subst hsig
          cases rest with
          | nil => cases hp
          | cons d ds =>
            have hd : (62 == d) = true := by
              have : ((45 == 45) && ((62 == d) && List.isPrefixOf [] ds)) = true := hp
              simpa using this
            exact (z1 rfl).1 (by rw [← (beq_iff_eq.mp hd)]; rfl)
        · subst y2
          have hsig : s = [61, 61] := by
            have : ∀ s ∈ signs, List.isPrefixOf [61] s = true → s = [61, 61] ∨ s = [61] := by decide +kernel
            rcases this s (List.mem_of_getElem? hs) q with e | e
            · exact e
            · subst e; cases y.1
          subst hsig
          cases rest with
          | nil => cases hp
          | cons d ds =>
            have hd : (61 == d) = true := by
              have : ((61 == 61) && ((61 == d) && List.isPrefixOf [] ds)) = true := hp
              simpa using this
            exact z2 rfl (by rw [← (beq_iff_eq.mp hd)]; rfl)
    · rw [Bool.eq_false_iff]
      intro hp
      have : ∀ w ∈ signs, List.isPrefixOf [45, 45] w = false ∧ (w.isPrefixOf [45, 45] = true → w = [45]) := by decide +kernel
      have y := this w h2
      rcases pre_app hp with q | q
      · rw [y.1] at q; cases q
      · have e := y.2 q
        subst e
        cases rest with
        | nil => cases hp
        | cons d ds =>
          have hd : (45 == d) = true := by
            have : ((45 == 45) && ((45 == d) && List.isPrefixOf [] ds)) = true := hp
            simpa using this
          exact (z1 rfl).2 (by rw [← (beq_iff_eq.mp hd)]; rfl)
theorem aft_blank {sort : Str} {w rest : List Nat} : Aft sort w (32 :: rest) := by
  refine ⟨fun _ c h => ?_, fun _ => ⟨fun _ => ⟨?_, ?_⟩, fun _ => ?_⟩⟩
  · cases h
    decide +kernel
  all_goals exact fun h => nomatch h
theorem aft_nil {sort : Str} {w : List Nat} : Aft sort w [] := by
  refine ⟨fun _ c h => ?_, fun _ => ⟨fun _ => ⟨?_, ?_⟩, fun _ => ?_⟩⟩
  · cases h
  all_goals exact fun h => nomatch h
def names : List (List Nat) := [[120], [102], [105, 110], [97, 98], [108, 101, 116, 115], [111, 102, 97], [100, 97, 116, 97, 115], [97, 98, 99, 100, 101, 102, 103, 104], [101], [116, 104, 101, 110]]
theorem eNames : ([.str "x", .str "f", .str "in", .str "ab", .str "lets", .str "ofa", .str "datas", .str "abcdefgh", .str "e", .str "then"] : List V) = names.map fun x => V.str (tx x) := by decide +kernel
def makers : List (List Nat) := [[65], [67, 111, 110, 115], [84, 114, 117, 101], [65, 98, 99, 100, 101, 102, 103, 104], [73, 110], [90]]
theorem eMakers : ([.str "A", .str "Cons", .str "True", .str "Abcdefgh", .str "In", .str "Z"] : List V) = makers.map fun x => V.str (tx x) := by decide +kernel
def zs29 : List Nat := List.replicate 29 48
def nums : List (List Nat) := [[48], [55], [49, 48], [52, 50], 49 :: zs29, [57, 48, 53]]
theorem eNums : ([.str "0", .str "7", .str "10", .str "42", .str (tx (49 :: zs29)), .str "905"] : List V) = nums.map fun x => V.str (tx x) := by decide +kernel
theorem eSigns2 : ([.str "->", .str "==", .str "=", .str "|", .str "(", .str ")", .str "+", .str "-", .str "*", .str "<", .str "_"] : List V) = signs.map fun x => V.str (tx x) := by decide +kernel
theorem eWords2 : ([.str "data", .str "let", .str "in", .str "if", .str "then", .str "else", .str "case", .str "of", .str "fun"] : List V) = words.map fun x => V.str (tx x) := by decide +kernel
theorem law_words_eq {S : Sto} : f_law_words [] S = .ok (.ref S.n) (S.push (.lst (words.map fun x => V.str (tx x)))) := by
  have e : f_law_words [] S = newL ([.str "data", .str "let", .str "in", .str "if", .str "then", .str "else", .str "case", .str "of", .str "fun"] : List V) S := rfl
  rw [e, eWords2, newL_eq (small _ (by decide))]
theorem Fr1.at {S S' : Sto} {p q : Nat} {o : Ob} (h : At S q o) (f : Fr1 p S S') (n : q ≠ p) : At S' q o := h.fr f n
theorem gcall0 {g : List V → Sto → Res V} {σ : St} {S : Sto} : gCall 0 g aNil σ S = g [] S := rfl
theorem name_end {w : List Nat} {S3 : Sto} {Q : V → Sto → Prop} (h : ∀ q S', S3.n ≤ q → At S' q (.lst [.str (if w ∈ words then ("word" : Str) else "name"), .str (tx w)]) → Fr0 S3 S' → Q (.ref q) S') :
    Run (oIn (V.str (tx w)) (V.ref (S3.push (Ob.lst [V.str "name", V.str "word"])).n) ((S3.push (Ob.lst [V.str "name", V.str "word"])).push (Ob.lst (words.map fun x => V.str (tx x))))) fun a S_1 =>
      Run (bInt [a] S_1) fun a S_2 => Run (iSeq (V.ref S3.n) a S_2) fun a S_3 => 2 ≤ sizeLine ∧ Q (V.ref S_3.n) (S_3.push (Ob.lst [a, V.str (tx w)])) := by
  have hw := (At.new (S := S3.push (Ob.lst [V.str "name", V.str "word"])) (o := Ob.lst (words.map fun x => V.str (tx x)))).seqL
  have hl : At ((S3.push (Ob.lst [V.str "name", V.str "word"])).push (Ob.lst (words.map fun x => V.str (tx x)))) S3.n (Ob.lst [V.str "name", V.str "word"]) := At.new.push
  have hf : Fr0 S3 ((S3.push (Ob.lst [V.str "name", V.str "word"])).push (Ob.lst (words.map fun x => V.str (tx x)))) := Fr.push.trans .push
  rw [oIn_txs hw]
  generalize (S3.push (Ob.lst [V.str "name", V.str "word"])).push (Ob.lst (words.map fun x => V.str (tx x))) = S4 at *
  by_cases hin : w ∈ words
  · rw [if_pos hin] at h
    have e : bInt [.bl true] S4 = .ok (.int 1) S4 := rfl
    simp only [runS_seq, runS_sb, runS_nx, runS_rt, run_bind, run_ok, run_body, run_call, run_noEx, mSet, mIf, mRet, mExpr, mNext, mAsg, mAug, mFor, gBin, gTest, gAnd, gOr, gNot, gAndV, gOrV, gNotV, gIfE, gCb, gMt, gLst, gTup, gSl, gLc, aCons, aNil, eVar, eC, pSome, pNone, tgName, tgCons, tgNil, L2.start, vInt, vStr, vRef, vBl, Hf.l1, Hf.l2, Option.go, Res.or, List.length_cons, List.length_nil, List.getElem?_cons_zero, List.getElem?_cons_succ, List.set_cons_zero, List.set_cons_succ, List.map_cons, List.map_nil, List.cons_append, List.nil_append, List.replicate, Nat.reduceSub, Nat.reduceAdd, Nat.zero_add, Option.some.injEq, true_and, and_true, if_true, eq_self, Option.some.injEq, decide_eq_true hin, e, iSeq_lst hl (show L2.atI [V.str "name", V.str "word"] 1 = some (V.str "word") from rfl)]
    exact ⟨small _, h _ _ hf.le At.new (hf.trans .push)⟩
  · rw [if_neg hin] at h
    have e : bInt [.bl false] S4 = .ok (.int 0) S4 := rfl
    simp only [runS_seq, runS_sb, runS_nx, runS_rt, run_bind, run_ok, run_body, run_call, run_noEx, mSet, mIf, mRet, mExpr, mNext, mAsg, mAug, mFor, gBin, gTest, gAnd, gOr, gNot, gAndV, gOrV, gNotV, gIfE, gCb, gMt, gLst, gTup, gSl, gLc, aCons, aNil, eVar, eC, pSome, pNone, tgName, tgCons, tgNil, L2.start, vInt, vStr, vRef, vBl, Hf.l1, Hf.l2, Option.go, Res.or, List.length_cons, List.length_nil, List.getElem?_cons_zero, List.getElem?_cons_succ, List.set_cons_zero, List.set_cons_succ, List.map_cons, List.map_nil, List.cons_append, List.nil_append, List.replicate, Nat.reduceSub, Nat.reduceAdd, Nat.zero_add, Option.some.injEq, true_and, and_true, if_true, eq_self, Option.some.injEq, decide_eq_false hin, e, iSeq_lst hl (show L2.atI [V.str "name", V.str "word"] 0 = some (V.str "name") from rfl)]
    exact ⟨small _, h _ _ hf.le At.new (hf.trans .push)⟩
theorem names_ok : ∀ w ∈ names, w ≠ [] ∧ w.length ≤ 8 ∧ ∀ c ∈ w, c ∈ lS := by decide +kernel
theorem words_ok : ∀ w ∈ words, w ≠ [] ∧ w.length ≤ 8 ∧ ∀ c ∈ w, c ∈ lS := by decide +kernel
theorem makers_ok {w : List Nat} (h : w ∈ makers) : ∃ g cs, w = g :: cs ∧ g ∈ lG ∧ cs.length ≤ 7 ∧ (∀ c ∈ cs, c ∈ lS) := by
  have : ∀ w ∈ makers, (match w with | [] => false | g :: cs => decide (g ∈ lG ∧ cs.length ≤ 7 ∧ (∀ c ∈ cs, c ∈ lS))) = true := by decide +kernel
  have z := this w h
  cases w with
  | nil => cases z
  | cons g cs => exact ⟨g, cs, rfl, of_decide_eq_true z⟩
theorem nums_ok {w : List Nat} (h : w ∈ nums) : w.length ≤ 30 ∧ (w = [48] ∨ ((∀ c ∈ w, c ∈ lF) ∧ w ≠ [] ∧ w.head? ≠ some 48)) := (show ∀ w ∈ nums, w.length ≤ 30 ∧ (w = [48] ∨ ((∀ c ∈ w, c ∈ lF) ∧ w ≠ [] ∧ w.head? ≠ some 48)) by decide +kernel) w h
/-- a list is written, then a number is taken -/
theorem take_pick {p : Nat} {k steps : Int} {S : Sto} {ws : List (List Nat)} (h : Pu S p k) (hk : k ≤ 9500) (h1 : 1 ≤ steps) (h2 : steps ≤ 100) (hl : steps = ws.length) :
    Run (f_law_take [.ref p, .int steps] (S.push (.lst (ws.map fun x => V.str (tx x))))) fun v S' => ∃ g w, v = .int g ∧ w ∈ ws ∧ iSeq (.ref S.n) (.int g) S' = .ok (.str (tx w)) S' ∧ Fr1 p S S' ∧ Pu S' p (k + 1) ∧ S'.n = S.n + 1 := by
  have ha := At.new (S := S) (o := .lst (ws.map fun x => V.str (tx x)))
  have h3 := h.fr (Fr.push (M := fun _ => False) (o := .lst (ws.map fun x => V.str (tx x)))) id
  have hne : S.n ≠ p := fun e => by have := h.lt; omega
  refine (law_take_ok h3 (by omega) h1 h2).imp fun v S3 z => ?_
  obtain ⟨g, rfl, g1, g2, hf3, h3, hn3⟩ := z
  obtain ⟨w, hw, e⟩ := pick (ws := ws) g1 (by omega)
  exact ⟨g, w, rfl, hw, iSeq_lst (ha.fr hf3 hne) e, Fr.push.trans hf3, h3, hn3⟩
theorem law_word_ok {p : Nat} {k : Int} {S : Sto} (h : Pu S p k) (hk : k ≤ 9000) :
    Run (f_law_word [.ref p] S) fun v S' => ∃ q sort w, v = .ref q ∧ At S' q (.lst [.str sort, .str (tx w)]) ∧ S.n ≤ q ∧ Good sort w ∧ Fr1 p S S' ∧ Pu S' p (k + 12) := by
  unfold f_law_word
  rw [run_body]
  unfold m_law_word
  generalize hF : FUEL = F
  simp only [L2.start, List.map_cons, List.map_nil, List.length_cons, List.length_nil, Nat.reduceAdd, Nat.reduceSub, List.replicate, List.cons_append, List.nil_append]
  have e1 : Run (gCall 2 f_law_take (aCons (eVar 0) (aCons (eC (.int 8)) aNil)) [some (.ref p), none, none, none, none, none] S) fun v S' => ∃ g, v = .int g ∧ 0 ≤ g ∧ g < 8 ∧ Fr1 p S S' ∧ Pu S' p (k + 1) ∧ S'.n = S.n := by
    simp only [runS_seq, runS_sb, runS_nx, runS_rt, run_bind, run_ok, run_body, run_call, run_noEx, mSet, mIf, mRet, mExpr, mNext, mAsg, mAug, mFor, gBin, gTest, gAnd, gOr, gNot, gAndV, gOrV, gNotV, gIfE, gCb, gMt, gLst, gTup, gSl, gLc, aCons, aNil, eVar, eC, pSome, pNone, tgName, tgCons, tgNil, L2.start, vInt, vStr, vRef, vBl, Hf.l1, Hf.l2, Option.go, Res.or, List.length_cons, List.length_nil, List.getElem?_cons_zero, List.getElem?_cons_succ, List.set_cons_zero, List.set_cons_succ, List.map_cons, List.map_nil, List.cons_append, List.nil_append, List.replicate, Nat.reduceSub, Nat.reduceAdd, Nat.zero_add, Option.some.injEq, true_and, and_true, if_true, eq_self, Option.some.injEq]
    exact law_take_ok h (by omega) (by decide) (by decide)
  refine seqSet (e1.imp fun v S1 z => ?_)
  obtain ⟨way, rfl, w1, w2, hf, h, hn⟩ := z
  refine seqSet (show RunS _ _ _ from ?_)
  simp only [List.set_cons_zero, List.set_cons_succ]
  generalize hal : (("abcdefghijklmnopqrstuvwxyz" : Str)) = al
  by_cases c1 : way < 3
  · have d1 : decide (way < 3) = true := decide_eq_true c1
    refine seqRet (by simp only [runS_seq, runS_sb, runS_nx, runS_rt, run_bind, run_ok, run_body, run_call, run_noEx, mSet, mIf, mRet, mExpr, mNext, mAsg, mAug, mFor, gBin, gTest, gAnd, gOr, gNot, gAndV, gOrV, gNotV, gIfE, gCb, gMt, gLst, gTup, gSl, gLc, aCons, aNil, eVar, eC, pSome, pNone, tgName, tgCons, tgNil, L2.start, vInt, vStr, vRef, vBl, Hf.l1, Hf.l2, Option.go, Res.or, List.length_cons, List.length_nil, List.getElem?_cons_zero, List.getElem?_cons_succ, List.set_cons_zero, List.set_cons_succ, List.map_cons, List.map_nil, List.cons_append, List.nil_append, List.replicate, Nat.reduceSub, Nat.reduceAdd, Nat.zero_add, Option.some.injEq, true_and, and_true, if_true, eq_self, Option.some.injEq, oLt_int, d1, Res.bind]) ?_
    simp only [runS_seq, runS_sb, runS_nx, runS_rt, run_bind, run_ok, run_body, run_call, run_noEx, mSet, mIf, mRet, mExpr, mNext, mAsg, mAug, mFor, gBin, gTest, gAnd, gOr, gNot, gAndV, gOrV, gNotV, gIfE, gCb, gMt, gLst, gTup, gSl, gLc, aCons, aNil, eVar, eC, pSome, pNone, tgName, tgCons, tgNil, L2.start, vInt, vStr, vRef, vBl, Hf.l1, Hf.l2, Option.go, Res.or, List.length_cons, List.length_nil, List.getElem?_cons_zero, List.getElem?_cons_succ, List.set_cons_zero, List.set_cons_succ, List.map_cons, List.map_nil, List.cons_append, List.nil_append, List.replicate, Nat.reduceSub, Nat.reduceAdd, Nat.zero_add, Option.some.injEq, true_and, and_true, if_true, eq_self, Option.some.injEq, run_newL]
    refine ⟨small _, ?_⟩
    rw [eNames]
    refine (take_pick h (by omega) (by decide) (by decide) rfl).imp fun v S3 z => ?_
    obtain ⟨g, w, rfl, hw, e, hf3, h3, hn3⟩ := z
    simp only [runS_seq, runS_sb, runS_nx, runS_rt, run_bind, run_ok, run_body, run_call, run_noEx, mSet, mIf, mRet, mExpr, mNext, mAsg, mAug, mFor, gBin, gTest, gAnd, gOr, gNot, gAndV, gOrV, gNotV, gIfE, gCb, gMt, gLst, gTup, gSl, gLc, aCons, aNil, eVar, eC, pSome, pNone, tgName, tgCons, tgNil, L2.start, vInt, vStr, vRef, vBl, Hf.l1, Hf.l2, Option.go, Res.or, List.length_cons, List.length_nil, List.getElem?_cons_zero, List.getElem?_cons_succ, List.set_cons_zero, List.set_cons_succ, List.map_cons, List.map_nil, List.cons_append, List.nil_append, List.replicate, Nat.reduceSub, Nat.reduceAdd, Nat.zero_add, Option.some.injEq, true_and, and_true, if_true, eq_self, Option.some.injEq, e, law_words_eq, run_newL]
    refine ⟨small _, ?_⟩
    refine name_end (Q := fun v S' => ∃ q sort w, v = .ref q ∧ At S' q (.lst [.str sort, .str (tx w)]) ∧ S.n ≤ q ∧ Good sort w ∧ Fr1 p S S' ∧ Pu S' p (k + 12)) fun q S' hq ha hf4 => ?_
    exact ⟨q, _, w, rfl, ha, by omega, .inl ⟨rfl, names_ok w hw⟩, (hf.trans hf3).trans hf4.of0, (h3.fr hf4 id).mono (by omega)⟩
  have d1 : decide (way < 3) = false := decide_eq_false c1
  refine seqSkip (by simp only [runS_seq, runS_sb, runS_nx, runS_rt, run_bind, run_ok, run_body, run_call, run_noEx, mSet, mIf, mRet, mExpr, mNext, mAsg, mAug, mFor, gBin, gTest, gAnd, gOr, gNot, gAndV, gOrV, gNotV, gIfE, gCb, gMt, gLst, gTup, gSl, gLc, aCons, aNil, eVar, eC, pSome, pNone, tgName, tgCons, tgNil, L2.start, vInt, vStr, vRef, vBl, Hf.l1, Hf.l2, Option.go, Res.or, List.length_cons, List.length_nil, List.getElem?_cons_zero, List.getElem?_cons_succ, List.set_cons_zero, List.set_cons_succ, List.map_cons, List.map_nil, List.cons_append, List.nil_append, List.replicate, Nat.reduceSub, Nat.reduceAdd, Nat.zero_add, Option.some.injEq, true_and, and_true, if_true, eq_self, Option.some.injEq, oLt_int, d1, Res.bind]) ?_
  by_cases c2 : way = 3
  · have d2 : decide (way = 3) = true := decide_eq_true c2
    refine seqRet (by simp only [runS_seq, runS_sb, runS_nx, runS_rt, run_bind, run_ok, run_body, run_call, run_noEx, mSet, mIf, mRet, mExpr, mNext, mAsg, mAug, mFor, gBin, gTest, gAnd, gOr, gNot, gAndV, gOrV, gNotV, gIfE, gCb, gMt, gLst, gTup, gSl, gLc, aCons, aNil, eVar, eC, pSome, pNone, tgName, tgCons, tgNil, L2.start, vInt, vStr, vRef, vBl, Hf.l1, Hf.l2, Option.go, Res.or, List.length_cons, List.length_nil, List.getElem?_cons_zero, List.getElem?_cons_succ, List.set_cons_zero, List.set_cons_succ, List.map_cons, List.map_nil, List.cons_append, List.nil_append, List.replicate, Nat.reduceSub, Nat.reduceAdd, Nat.zero_add, Option.some.injEq, true_and, and_true, if_true, eq_self, Option.some.injEq, oEq_int, d2, Res.bind]) ?_
    simp only [runS_seq, runS_sb, runS_nx, runS_rt, run_bind, run_ok, run_body, run_call, run_noEx, mSet, mIf, mRet, mExpr, mNext, mAsg, mAug, mFor, gBin, gTest, gAnd, gOr, gNot, gAndV, gOrV, gNotV, gIfE, gCb, gMt, gLst, gTup, gSl, gLc, aCons, aNil, eVar, eC, pSome, pNone, tgName, tgCons, tgNil, L2.start, vInt, vStr, vRef, vBl, Hf.l1, Hf.l2, Option.go, Res.or, List.length_cons, List.length_nil, List.getElem?_cons_zero, List.getElem?_cons_succ, List.set_cons_zero, List.set_cons_succ, List.map_cons, List.map_nil, List.cons_append, List.nil_append, List.replicate, Nat.reduceSub, Nat.reduceAdd, Nat.zero_add, Option.some.injEq, true_and, and_true, if_true, eq_self, Option.some.injEq, run_newL]
    refine ⟨small _, ?_⟩
    rw [eMakers]
    refine (take_pick h (by omega) (by decide) (by decide) rfl).imp fun v S3 z => ?_
    obtain ⟨g, w, rfl, hw, e, hf3, h3, hn3⟩ := z
    simp only [runS_seq, runS_sb, runS_nx, runS_rt, run_bind, run_ok, run_body, run_call, run_noEx, mSet, mIf, mRet, mExpr, mNext, mAsg, mAug, mFor, gBin, gTest, gAnd, gOr, gNot, gAndV, gOrV, gNotV, gIfE, gCb, gMt, gLst, gTup, gSl, gLc, aCons, aNil, eVar, eC, pSome, pNone, tgName, tgCons, tgNil, L2.start, vInt, vStr, vRef, vBl, Hf.l1, Hf.l2, Option.go, Res.or, List.length_cons, List.length_nil, List.getElem?_cons_zero, List.getElem?_cons_succ, List.set_cons_zero, List.set_cons_succ, List.map_cons, List.map_nil, List.cons_append, List.nil_append, List.replicate, Nat.reduceSub, Nat.reduceAdd, Nat.zero_add, Option.some.injEq, true_and, and_true, if_true, eq_self, Option.some.injEq, e, run_newL]
    exact ⟨small _, S3.n, _, w, rfl, At.new, by omega, .inr (.inl ⟨rfl, makers_ok hw⟩), (hf.trans hf3).trans .push, (h3.fr (Fr.push (M := fun _ => False)) id).mono (by omega)⟩
  have d2 : decide (way = 3) = false := decide_eq_false c2
  refine seqSkip (by simp only [runS_seq, runS_sb, runS_nx, runS_rt, run_bind, run_ok, run_body, run_call, run_noEx, mSet, mIf, mRet, mExpr, mNext, mAsg, mAug, mFor, gBin, gTest, gAnd, gOr, gNot, gAndV, gOrV, gNotV, gIfE, gCb, gMt, gLst, gTup, gSl, gLc, aCons, aNil, eVar, eC, pSome, pNone, tgName, tgCons, tgNil, L2.start, vInt, vStr, vRef, vBl, Hf.l1, Hf.l2, Option.go, Res.or, List.length_cons, List.length_nil, List.getElem?_cons_zero, List.getElem?_cons_succ, List.set_cons_zero, List.set_cons_succ, List.map_cons, List.map_nil, List.cons_append, List.nil_append, List.replicate, Nat.reduceSub, Nat.reduceAdd, Nat.zero_add, Option.some.injEq, true_and, and_true, if_true, eq_self, Option.some.injEq, oEq_int, d2, Res.bind]) ?_
  by_cases c3 : way = 4
  · have d3 : decide (way = 4) = true := decide_eq_true c3
    have e0 : (("0" : Str)) = tx [48] := by decide +kernel
    have em : ∀ {S : Sto}, oMul (.str ("0" : Str)) (.int 29) S = .ok (.str (tx (zs29))) S := fun {S} => by
      rw [oMul_str (by decide +kernel), e0, rep_one]
      rfl
    have ea : ∀ {S : Sto}, oAdd (.str ("1" : Str)) (.str (tx (zs29))) S = .ok (.str (tx (49 :: zs29))) S := fun {S} => by
      have e1 : (("1" : Str)) = tx [49] := by decide +kernel
      rw [e1, oAdd_str (Nat.le_trans (show _ ≤ 1000 by decide +kernel) (small _)), tx_cat]
      rfl
    refine seqRet (by simp only [runS_seq, runS_sb, runS_nx, runS_rt, run_bind, run_ok, run_body, run_call, run_noEx, mSet, mIf, mRet, mExpr, mNext, mAsg, mAug, mFor, gBin, gTest, gAnd, gOr, gNot, gAndV, gOrV, gNotV, gIfE, gCb, gMt, gLst, gTup, gSl, gLc, aCons, aNil, eVar, eC, pSome, pNone, tgName, tgCons, tgNil, L2.start, vInt, vStr, vRef, vBl, Hf.l1, Hf.l2, Option.go, Res.or, List.length_cons, List.length_nil, List.getElem?_cons_zero, List.getElem?_cons_succ, List.set_cons_zero, List.set_cons_succ, List.map_cons, List.map_nil, List.cons_append, List.nil_append, List.replicate, Nat.reduceSub, Nat.reduceAdd, Nat.zero_add, Option.some.injEq, true_and, and_true, if_true, eq_self, Option.some.injEq, oEq_int, d3, Res.bind]) ?_
    simp only [runS_seq, runS_sb, runS_nx, runS_rt, run_bind, run_ok, run_body, run_call, run_noEx, mSet, mIf, mRet, mExpr, mNext, mAsg, mAug, mFor, gBin, gTest, gAnd, gOr, gNot, gAndV, gOrV, gNotV, gIfE, gCb, gMt, gLst, gTup, gSl, gLc, aCons, aNil, eVar, eC, pSome, pNone, tgName, tgCons, tgNil, L2.start, vInt, vStr, vRef, vBl, Hf.l1, Hf.l2, Option.go, Res.or, List.length_cons, List.length_nil, List.getElem?_cons_zero, List.getElem?_cons_succ, List.set_cons_zero, List.set_cons_succ, List.map_cons, List.map_nil, List.cons_append, List.nil_append, List.replicate, Nat.reduceSub, Nat.reduceAdd, Nat.zero_add, Option.some.injEq, true_and, and_true, if_true, eq_self, Option.some.injEq, em, ea, run_newL]
    refine ⟨small _, ?_⟩
    rw [eNums]
    refine (take_pick h (by omega) (by decide) (by decide) rfl).imp fun v S3 z => ?_
    obtain ⟨g, w, rfl, hw, e, hf3, h3, hn3⟩ := z
    simp only [runS_seq, runS_sb, runS_nx, runS_rt, run_bind, run_ok, run_body, run_call, run_noEx, mSet, mIf, mRet, mExpr, mNext, mAsg, mAug, mFor, gBin, gTest, gAnd, gOr, gNot, gAndV, gOrV, gNotV, gIfE, gCb, gMt, gLst, gTup, gSl, gLc, aCons, aNil, eVar, eC, pSome, pNone, tgName, tgCons, tgNil, L2.start, vInt, vStr, vRef, vBl, Hf.l1, Hf.l2, Option.go, Res.or, List.length_cons, List.length_nil, List.getElem?_cons_zero, List.getElem?_cons_succ, List.set_cons_zero, List.set_cons_succ, List.map_cons, List.map_nil, List.cons_append, List.nil_append, List.replicate, Nat.reduceSub, Nat.reduceAdd, Nat.zero_add, Option.some.injEq, true_and, and_true, if_true, eq_self, Option.some.injEq, e, run_newL]
    have hg := nums_ok hw
    exact ⟨small _, S3.n, _, w, rfl, At.new, by omega, .inr (.inr (.inl ⟨rfl, hg⟩)), (hf.trans hf3).trans .push, (h3.fr (Fr.push (M := fun _ => False)) id).mono (by omega)⟩
  have d3 : decide (way = 4) = false := decide_eq_false c3
  refine seqSkip (by simp only [runS_seq, runS_sb, runS_nx, runS_rt, run_bind, run_ok, run_body, run_call, run_noEx, mSet, mIf, mRet, mExpr, mNext, mAsg, mAug, mFor, gBin, gTest, gAnd, gOr, gNot, gAndV, gOrV, gNotV, gIfE, gCb, gMt, gLst, gTup, gSl, gLc, aCons, aNil, eVar, eC, pSome, pNone, tgName, tgCons, tgNil, L2.start, vInt, vStr, vRef, vBl, Hf.l1, Hf.l2, Option.go, Res.or, List.length_cons, List.length_nil, List.getElem?_cons_zero, List.getElem?_cons_succ, List.set_cons_zero, List.set_cons_succ, List.map_cons, List.map_nil, List.cons_append, List.nil_append, List.replicate, Nat.reduceSub, Nat.reduceAdd, Nat.zero_add, Option.some.injEq, true_and, and_true, if_true, eq_self, Option.some.injEq, oEq_int, d3, Res.bind]) ?_
  by_cases c4 : way = 5
  · have d4 : decide (way = 5) = true := decide_eq_true c4
    refine seqRet (by simp only [runS_seq, runS_sb, runS_nx, runS_rt, run_bind, run_ok, run_body, run_call, run_noEx, mSet, mIf, mRet, mExpr, mNext, mAsg, mAug, mFor, gBin, gTest, gAnd, gOr, gNot, gAndV, gOrV, gNotV, gIfE, gCb, gMt, gLst, gTup, gSl, gLc, aCons, aNil, eVar, eC, pSome, pNone, tgName, tgCons, tgNil, L2.start, vInt, vStr, vRef, vBl, Hf.l1, Hf.l2, Option.go, Res.or, List.length_cons, List.length_nil, List.getElem?_cons_zero, List.getElem?_cons_succ, List.set_cons_zero, List.set_cons_succ, List.map_cons, List.map_nil, List.cons_append, List.nil_append, List.replicate, Nat.reduceSub, Nat.reduceAdd, Nat.zero_add, Option.some.injEq, true_and, and_true, if_true, eq_self, Option.some.injEq, oEq_int, d4, Res.bind]) ?_
    simp only [runS_seq, runS_sb, runS_nx, runS_rt, run_bind, run_ok, run_body, run_call, run_noEx, mSet, mIf, mRet, mExpr, mNext, mAsg, mAug, mFor, gBin, gTest, gAnd, gOr, gNot, gAndV, gOrV, gNotV, gIfE, gCb, gMt, gLst, gTup, gSl, gLc, aCons, aNil, eVar, eC, pSome, pNone, tgName, tgCons, tgNil, L2.start, vInt, vStr, vRef, vBl, Hf.l1, Hf.l2, Option.go, Res.or, List.length_cons, List.length_nil, List.getElem?_cons_zero, List.getElem?_cons_succ, List.set_cons_zero, List.set_cons_succ, List.map_cons, List.map_nil, List.cons_append, List.nil_append, List.replicate, Nat.reduceSub, Nat.reduceAdd, Nat.zero_add, Option.some.injEq, true_and, and_true, if_true, eq_self, Option.some.injEq]
    rw [law_words_eq, run_ok]
    refine (take_pick h (by omega) (by decide) (by decide) rfl).imp fun v S3 z => ?_
    obtain ⟨g, w, rfl, hw, e, hf3, h3, hn3⟩ := z
    simp only [runS_seq, runS_sb, runS_nx, runS_rt, run_bind, run_ok, run_body, run_call, run_noEx, mSet, mIf, mRet, mExpr, mNext, mAsg, mAug, mFor, gBin, gTest, gAnd, gOr, gNot, gAndV, gOrV, gNotV, gIfE, gCb, gMt, gLst, gTup, gSl, gLc, aCons, aNil, eVar, eC, pSome, pNone, tgName, tgCons, tgNil, L2.start, vInt, vStr, vRef, vBl, Hf.l1, Hf.l2, Option.go, Res.or, List.length_cons, List.length_nil, List.getElem?_cons_zero, List.getElem?_cons_succ, List.set_cons_zero, List.set_cons_succ, List.map_cons, List.map_nil, List.cons_append, List.nil_append, List.replicate, Nat.reduceSub, Nat.reduceAdd, Nat.zero_add, Option.some.injEq, true_and, and_true, if_true, eq_self, Option.some.injEq, e, run_newL]
    exact ⟨small _, S3.n, _, w, rfl, At.new, by omega, .inl ⟨by rw [if_pos hw], words_ok w hw⟩, (hf.trans hf3).trans .push, (h3.fr (Fr.push (M := fun _ => False)) id).mono (by omega)⟩
  have d4 : decide (way = 5) = false := decide_eq_false c4
  refine seqSkip (by simp only [runS_seq, runS_sb, runS_nx, runS_rt, run_bind, run_ok, run_body, run_call, run_noEx, mSet, mIf, mRet, mExpr, mNext, mAsg, mAug, mFor, gBin, gTest, gAnd, gOr, gNot, gAndV, gOrV, gNotV, gIfE, gCb, gMt, gLst, gTup, gSl, gLc, aCons, aNil, eVar, eC, pSome, pNone, tgName, tgCons, tgNil, L2.start, vInt, vStr, vRef, vBl, Hf.l1, Hf.l2, Option.go, Res.or, List.length_cons, List.length_nil, List.getElem?_cons_zero, List.getElem?_cons_succ, List.set_cons_zero, List.set_cons_succ, List.map_cons, List.map_nil, List.cons_append, List.nil_append, List.replicate, Nat.reduceSub, Nat.reduceAdd, Nat.zero_add, Option.some.injEq, true_and, and_true, if_true, eq_self, Option.some.injEq, oEq_int, d4, Res.bind]) ?_
  by_cases c5 : way = 6
  · have d5 : decide (way = 6) = true := decide_eq_true c5
    have eal : al = tx lS := by rw [← hal]; decide +kernel
    have enil : (("" : Str)) = tx [] := by decide +kernel
    refine seqRet (by simp only [runS_seq, runS_sb, runS_nx, runS_rt, run_bind, run_ok, run_body, run_call, run_noEx, mSet, mIf, mRet, mExpr, mNext, mAsg, mAug, mFor, gBin, gTest, gAnd, gOr, gNot, gAndV, gOrV, gNotV, gIfE, gCb, gMt, gLst, gTup, gSl, gLc, aCons, aNil, eVar, eC, pSome, pNone, tgName, tgCons, tgNil, L2.start, vInt, vStr, vRef, vBl, Hf.l1, Hf.l2, Option.go, Res.or, List.length_cons, List.length_nil, List.getElem?_cons_zero, List.getElem?_cons_succ, List.set_cons_zero, List.set_cons_succ, List.map_cons, List.map_nil, List.cons_append, List.nil_append, List.replicate, Nat.reduceSub, Nat.reduceAdd, Nat.zero_add, Option.some.injEq, true_and, and_true, if_true, eq_self, Option.some.injEq, oEq_int, d5, Res.bind]) ?_
    simp only [runS_seq, runS_sb, runS_nx, runS_rt, run_bind, run_ok, run_body, run_call, run_noEx, mSet, mIf, mRet, mExpr, mNext, mAsg, mAug, mFor, gBin, gTest, gAnd, gOr, gNot, gAndV, gOrV, gNotV, gIfE, gCb, gMt, gLst, gTup, gSl, gLc, aCons, aNil, eVar, eC, pSome, pNone, tgName, tgCons, tgNil, L2.start, vInt, vStr, vRef, vBl, Hf.l1, Hf.l2, Option.go, Res.or, List.length_cons, List.length_nil, List.getElem?_cons_zero, List.getElem?_cons_succ, List.set_cons_zero, List.set_cons_succ, List.map_cons, List.map_nil, List.cons_append, List.nil_append, List.replicate, Nat.reduceSub, Nat.reduceAdd, Nat.zero_add, Option.some.injEq, true_and, and_true, if_true, eq_self, Option.some.injEq, isTy_str, wRng1]
    refine (law_take_ok h (by omega) (by decide) (by decide)).imp fun v S3 z => ?_
    obtain ⟨g, rfl, g1, g2, hf3, h3, hn3⟩ := z
    have hrng : rngOk (1 + g) = true := rngOk_to (by omega) (by omega)
    simp only [runS_seq, runS_sb, runS_nx, runS_rt, run_bind, run_ok, run_body, run_call, run_noEx, mSet, mIf, mRet, mExpr, mNext, mAsg, mAug, mFor, gBin, gTest, gAnd, gOr, gNot, gAndV, gOrV, gNotV, gIfE, gCb, gMt, gLst, gTup, gSl, gLc, aCons, aNil, eVar, eC, pSome, pNone, tgName, tgCons, tgNil, L2.start, vInt, vStr, vRef, vBl, Hf.l1, Hf.l2, Option.go, Res.or, List.length_cons, List.length_nil, List.getElem?_cons_zero, List.getElem?_cons_succ, List.set_cons_zero, List.set_cons_succ, List.map_cons, List.map_nil, List.cons_append, List.nil_append, List.replicate, Nat.reduceSub, Nat.reduceAdd, Nat.zero_add, Option.some.injEq, true_and, and_true, if_true, eq_self, Option.some.injEq, oAdd_int, hrng, eal, L2.wipe]
    have hp := h3.lt
    have hne : S3.n ≠ p := fun e => by omega
    refine lc_runR (1 + g).toNat (J := fun i S' => ∃ cs, cs.length = i ∧ (∀ c ∈ cs, c ∈ lS) ∧ At S' S3.n (.lst (cs.map fun x => V.str (tx [x]))) ∧ Fr1 p S3 S' ∧ Pu S' p (k + 1 + 1 + i)) ?_ ?_ F 0 _
      ⟨[], rfl, fun c h => (nomatch h), At.new, .push, (h3.fr (Fr.push (M := fun _ => False)) id).mono (by omega)⟩ (Nat.zero_le _) (by rw [← hF]; unfold FUEL; omega)
    · rintro i S' hi ⟨cs, hcl, hcs, ha, hf4, h4⟩
      refine ⟨_, S', wkn_rng hi, ?_⟩
      simp only [runS_seq, runS_sb, runS_nx, runS_rt, run_bind, run_ok, run_body, run_call, run_noEx, mSet, mIf, mRet, mExpr, mNext, mAsg, mAug, mFor, gBin, gTest, gAnd, gOr, gNot, gAndV, gOrV, gNotV, gIfE, gCb, gMt, gLst, gTup, gSl, gLc, aCons, aNil, eVar, eC, pSome, pNone, tgName, tgCons, tgNil, L2.start, vInt, vStr, vRef, vBl, Hf.l1, Hf.l2, Option.go, Res.or, List.length_cons, List.length_nil, List.getElem?_cons_zero, List.getElem?_cons_succ, List.set_cons_zero, List.set_cons_succ, List.map_cons, List.map_nil, List.cons_append, List.nil_append, List.replicate, Nat.reduceSub, Nat.reduceAdd, Nat.zero_add, Option.some.injEq, true_and, and_true, if_true, eq_self, Option.some.injEq, tYesG]
      refine (law_take_ok h4 (by omega) (by decide) (by decide)).imp fun v S5 z => ?_
      obtain ⟨g', rfl, g1', g2', hf5, h5, hn5⟩ := z
      obtain ⟨n, rfl⟩ := Int.eq_ofNat_of_zero_le g1'
      have hl26 : lS.length = 26 := by decide +kernel
      obtain ⟨c, hc⟩ : ∃ c, lS[n]? = some c := ⟨_, List.getElem?_eq_getElem (by omega)⟩
      simp only [runS_seq, runS_sb, runS_nx, runS_rt, run_bind, run_ok, run_body, run_call, run_noEx, mSet, mIf, mRet, mExpr, mNext, mAsg, mAug, mFor, gBin, gTest, gAnd, gOr, gNot, gAndV, gOrV, gNotV, gIfE, gCb, gMt, gLst, gTup, gSl, gLc, aCons, aNil, eVar, eC, pSome, pNone, tgName, tgCons, tgNil, L2.start, vInt, vStr, vRef, vBl, Hf.l1, Hf.l2, Option.go, Res.or, List.length_cons, List.length_nil, List.getElem?_cons_zero, List.getElem?_cons_succ, List.set_cons_zero, List.set_cons_succ, List.map_cons, List.map_nil, List.cons_append, List.nil_append, List.replicate, Nat.reduceSub, Nat.reduceAdd, Nat.zero_add, Option.some.injEq, true_and, and_true, if_true, eq_self, Option.some.injEq, iSeq_tx (small _ (by omega)) hc]
      have ha5 := ha.fr hf5 hne
      refine ⟨_, ha5, Nat.lt_of_le_of_lt (show _ ≤ 999 by rw [List.length_map]; omega) (small 1000), cs ++ [c], by rw [List.length_append, hcl]; rfl, ?_, ?_, ?_, ?_⟩
      · intro d hd
        rcases List.mem_append.mp hd with h | h
        · exact hcs d h
        · rw [List.mem_singleton.mp h]
          exact List.mem_of_getElem? hc
      · rw [List.map_append]
        exact ha5.seti
      · exact (hf4.trans hf5).setNew (.inl (Nat.le_refl _))
      · have : Fr (fun i => i = S3.n) S5 (S5.set S3.n (.lst ((cs.map fun x => V.str (tx [x])) ++ [V.str (tx [c])]))) := .set (.inr rfl)
        exact (h5.fr this (Ne.symm hne)).mono (by omega)
    · rintro S' ⟨cs, hcl, hcs, ha, hf4, h4⟩
      refine ⟨wk_rng0 (Nat.lt_irrefl _), ?_⟩
      have ha2 : seqAt S' S3.n = some ((cs.map fun x => [x]).map fun x => V.str (tx x)) := by
        rw [List.map_map]
        exact ha.seqL
      have hfl : (cs.map fun x => [x]).flatten = cs := by
        clear hcl hcs ha ha2
        induction cs with
        | nil => rfl
        | cons c cs ih => rw [List.map_cons, List.flatten_cons, ih]; rfl
      have hj := mJoin_nil ha2 (by rw [hfl]; omega)
      rw [hfl] at hj
      simp only [runS_seq, runS_sb, runS_nx, runS_rt, run_bind, run_ok, run_body, run_call, run_noEx, mSet, mIf, mRet, mExpr, mNext, mAsg, mAug, mFor, gBin, gTest, gAnd, gOr, gNot, gAndV, gOrV, gNotV, gIfE, gCb, gMt, gLst, gTup, gSl, gLc, aCons, aNil, eVar, eC, pSome, pNone, tgName, tgCons, tgNil, L2.start, vInt, vStr, vRef, vBl, Hf.l1, Hf.l2, Option.go, Res.or, List.length_cons, List.length_nil, List.getElem?_cons_zero, List.getElem?_cons_succ, List.set_cons_zero, List.set_cons_succ, List.map_cons, List.map_nil, List.cons_append, List.nil_append, List.replicate, Nat.reduceSub, Nat.reduceAdd, Nat.zero_add, Option.some.injEq, true_and, and_true, if_true, eq_self, Option.some.injEq, enil, hj, run_newL]
      refine ⟨small _, ?_⟩
      simp only [law_words_eq, run_ok]
      refine name_end (Q := fun v S' => ∃ q sort w, v = .ref q ∧ At S' q (.lst [.str sort, .str (tx w)]) ∧ S.n ≤ q ∧ Good sort w ∧ Fr1 p S S' ∧ Pu S' p (k + 12)) fun q S6 hq ha hf6 => ?_
      have hle := hf4.le
      exact ⟨q, _, cs, rfl, ha, by omega, .inl ⟨rfl, fun e => by rw [e, List.length_nil] at hcl; omega, by omega, hcs⟩, ((hf.trans hf3).trans hf4).trans hf6.of0, (h4.fr hf6 id).mono (by omega)⟩
  have d5 : decide (way = 6) = false := decide_eq_false c5
  refine seqSkip (by simp only [runS_seq, runS_sb, runS_nx, runS_rt, run_bind, run_ok, run_body, run_call, run_noEx, mSet, mIf, mRet, mExpr, mNext, mAsg, mAug, mFor, gBin, gTest, gAnd, gOr, gNot, gAndV, gOrV, gNotV, gIfE, gCb, gMt, gLst, gTup, gSl, gLc, aCons, aNil, eVar, eC, pSome, pNone, tgName, tgCons, tgNil, L2.start, vInt, vStr, vRef, vBl, Hf.l1, Hf.l2, Option.go, Res.or, List.length_cons, List.length_nil, List.getElem?_cons_zero, List.getElem?_cons_succ, List.set_cons_zero, List.set_cons_succ, List.map_cons, List.map_nil, List.cons_append, List.nil_append, List.replicate, Nat.reduceSub, Nat.reduceAdd, Nat.zero_add, Option.some.injEq, true_and, and_true, if_true, eq_self, Option.some.injEq, oEq_int, d5, Res.bind]) ?_
  simp only [runS_seq, runS_sb, runS_nx, runS_rt, run_bind, run_ok, run_body, run_call, run_noEx, mSet, mIf, mRet, mExpr, mNext, mAsg, mAug, mFor, gBin, gTest, gAnd, gOr, gNot, gAndV, gOrV, gNotV, gIfE, gCb, gMt, gLst, gTup, gSl, gLc, aCons, aNil, eVar, eC, pSome, pNone, tgName, tgCons, tgNil, L2.start, vInt, vStr, vRef, vBl, Hf.l1, Hf.l2, Option.go, Res.or, List.length_cons, List.length_nil, List.getElem?_cons_zero, List.getElem?_cons_succ, List.set_cons_zero, List.set_cons_succ, List.map_cons, List.map_nil, List.cons_append, List.nil_append, List.replicate, Nat.reduceSub, Nat.reduceAdd, Nat.zero_add, Option.some.injEq, true_and, and_true, if_true, eq_self, Option.some.injEq, run_newL]
  refine ⟨small _, ?_⟩
  rw [eSigns2]
  refine (take_pick h (by omega) (by decide) (by decide) rfl).imp fun v S3 z => ?_
  obtain ⟨g, w, rfl, hw, e, hf3, h3, hn3⟩ := z
  simp only [runS_seq, runS_sb, runS_nx, runS_rt, run_bind, run_ok, run_body, run_call, run_noEx, mSet, mIf, mRet, mExpr, mNext, mAsg, mAug, mFor, gBin, gTest, gAnd, gOr, gNot, gAndV, gOrV, gNotV, gIfE, gCb, gMt, gLst, gTup, gSl, gLc, aCons, aNil, eVar, eC, pSome, pNone, tgName, tgCons, tgNil, L2.start, vInt, vStr, vRef, vBl, Hf.l1, Hf.l2, Option.go, Res.or, List.length_cons, List.length_nil, List.getElem?_cons_zero, List.getElem?_cons_succ, List.set_cons_zero, List.set_cons_succ, List.map_cons, List.map_nil, List.cons_append, List.nil_append, List.replicate, Nat.reduceSub, Nat.reduceAdd, Nat.zero_add, Option.some.injEq, true_and, and_true, if_true, eq_self, Option.some.injEq, e, run_newL]
  exact ⟨small _, S3.n, _, w, rfl, At.new, by omega, .inr (.inr (.inr ⟨rfl, hw⟩)), (hf.trans hf3).trans .push, (h3.fr (Fr.push (M := fun _ => False)) id).mono (by omega)⟩

/-! ### law_touches -/
def growD : List (Str × Str) := [("-", ">"), ("=", "="), ("-", "-"), ("<", "-"), ("=", "-"), ("*", "-"), ("+", "-"), ("|", "-"), ("(", "-")]
def growP : List PyData := growD.map fun p => .list [.str p.1, .str p.2]
theorem law_grow_ok {S : Sto} : Run (f_law_grow [] S) fun v S' => Fr0 S S' ∧ dat DEPTH S' v = some (.list growP) ∧ ∃ r, v = .ref r := by
  unfold f_law_grow
  rw [run_body]
  unfold m_law_grow
  simp only [runS_seq, runS_sb, runS_nx, runS_rt, run_bind, run_ok, run_body, run_call, run_noEx, mSet, mIf, mRet, mExpr, mNext, mAsg, mAug, mFor, gBin, gTest, gAnd, gOr, gNot, gAndV, gOrV, gNotV, gIfE, gCb, gMt, gLst, gTup, gSl, gLc, aCons, aNil, eVar, eC, pSome, pNone, tgName, tgCons, tgNil, L2.start, vInt, vStr, vRef, vBl, Hf.l1, Hf.l2, Option.go, Res.or, List.length_cons, List.length_nil, List.getElem?_cons_zero, List.getElem?_cons_succ, List.set_cons_zero, List.set_cons_succ, List.map_cons, List.map_nil, List.cons_append, List.nil_append, List.replicate, Nat.reduceSub, Nat.reduceAdd, Nat.zero_add, Option.some.injEq, true_and, and_true, if_true, eq_self, Option.some.injEq, run_newL]
  refine ⟨small _, small _, small _, small _, small _, small _, small _, small _, small _, small _, ?_, ?_, _, rfl⟩
  · exact Fr.push.trans (Fr.push.trans (Fr.push.trans (Fr.push.trans (Fr.push.trans (Fr.push.trans (Fr.push.trans (Fr.push.trans (Fr.push.trans .push))))))))
  · refine dat_lst (n := 63) At.new ?_
    repeat (first
      | exact mapO_nil
      | refine mapO_cons (dat_lst (n := 62) (by repeat (first | exact At.new | refine At.push ?_)) (mapO_cons dat_str (mapO_cons dat_str mapO_nil))) ?_)
theorem touch_none {a b : V} {S : Sto} : f_law_touches [a, b, .non] S = .ok (.bl true) S := rfl
theorem Good.head {sort : Str} {w : List Nat} (h : Good sort w) : ∃ c cs, w = c :: cs ∧ (sort = ("sign" : Str) ∧ c ∉ lS ∧ c ∉ lG ∧ c ∉ lF ∨ sort ≠ ("sign" : Str) ∧ c ≠ 62 ∧ c ≠ 45 ∧ c ≠ 61) := by
  have f1 : ∀ c ∈ lS, c ≠ 62 ∧ c ≠ 45 ∧ c ≠ 61 := by decide +kernel
  have f2 : ∀ c ∈ lG, c ≠ 62 ∧ c ≠ 45 ∧ c ≠ 61 := by decide +kernel
  have f3 : ∀ c ∈ lF, c ≠ 62 ∧ c ≠ 45 ∧ c ≠ 61 := by decide +kernel
  rcases h with ⟨h1, h2, h3, h4⟩ | ⟨h1, g, cs, rfl, hg, h3, h4⟩ | ⟨h1, h2, h3⟩ | ⟨h1, h2⟩
  · obtain ⟨c, cs, rfl⟩ := List.exists_cons_of_ne_nil h2
    refine ⟨c, cs, rfl, .inr ⟨?_, f1 c (h4 c (List.mem_cons_self ..))⟩⟩
    rw [h1]
    split
    · exact ns1
    · exact ns2
  · exact ⟨g, cs, rfl, .inr ⟨by rw [h1]; exact ns3, f2 g hg⟩⟩
  · rcases h3 with rfl | ⟨h3, h4, _⟩
    · exact ⟨48, [], rfl, .inr ⟨by rw [h1]; exact ns4, by decide⟩⟩
    · obtain ⟨c, cs, rfl⟩ := List.exists_cons_of_ne_nil h4
      exact ⟨c, cs, rfl, .inr ⟨by rw [h1]; exact ns4, f3 c (h3 c (List.mem_cons_self ..))⟩⟩
  · obtain ⟨c, cs, rfl, d⟩ := sgn_disj w h2
    exact ⟨c, cs, rfl, .inl ⟨h1, d⟩⟩
theorem Good.asc {sort : Str} {w : List Nat} (h : Good sort w) : ∀ c ∈ w, c < 128 := by
  have f1 : ∀ c ∈ lS, c < 128 := by decide +kernel
  have f2 : ∀ c ∈ lG, c < 128 := by decide +kernel
  have f3 : ∀ c ∈ lF, c < 128 := by decide +kernel
  rcases h with ⟨h1, h2, h3, h4⟩ | ⟨h1, g, cs, rfl, hg, h3, h4⟩ | ⟨h1, h2, h3⟩ | ⟨h1, h2⟩
  · exact fun c hc => f1 c (h4 c hc)
  · intro c hc
    rcases List.mem_cons.mp hc with rfl | hc
    · exact f2 _ hg
    · exact f1 c (h4 c hc)
  · rcases h3 with rfl | ⟨h3, _⟩
    · decide
    · exact fun c hc => f3 c (h3 c hc)
  · exact (show ∀ w ∈ signs, ∀ c ∈ w, c < 128 by decide +kernel) w h2
theorem touch_some {sort s0 : Str} {w w0 : List Nat} {r : Nat} {S : Sto} (hr : At S r (.lst [.str s0, .str (tx w0)])) (h0 : Good s0 w0) (h1 : Good sort w) :
    Run (f_law_touches [.str sort, .str (tx w), .ref r] S) fun v S' => ∃ b, v = .bl b ∧ Fr0 S S' ∧ (b = true → ∀ rest, Aft s0 w0 (w ++ rest)) := by
  have i0 : L2.atI [V.str s0, V.str (tx w0)] 0 = some (.str s0) := rfl
  have i1 : L2.atI [V.str s0, V.str (tx w0)] 1 = some (.str (tx w0)) := rfl
  have e0 := iSeq_lst hr i0
  have e1 := iSeq_lst hr i1
  obtain ⟨c, cs, hw, hc⟩ := h1.head
  have hn : oIsN (.ref r) .non S = .ok (.bl false) S := rfl
  unfold f_law_touches
  rw [run_body]
  unfold m_law_touches
  simp only [L2.start, List.map_cons, List.map_nil, List.length_cons, List.length_nil, Nat.reduceAdd, Nat.reduceSub, List.replicate, List.cons_append, List.nil_append]
  refine seqSkip (by simp only [runS_seq, runS_sb, runS_nx, runS_rt, run_bind, run_ok, run_body, run_call, run_noEx, mSet, mIf, mRet, mExpr, mNext, mAsg, mAug, mFor, gBin, gTest, gAnd, gOr, gNot, gAndV, gOrV, gNotV, gIfE, gCb, gMt, gLst, gTup, gSl, gLc, aCons, aNil, eVar, eC, pSome, pNone, tgName, tgCons, tgNil, L2.start, vInt, vStr, vRef, vBl, Hf.l1, Hf.l2, Option.go, Res.or, List.length_cons, List.length_nil, List.getElem?_cons_zero, List.getElem?_cons_succ, List.set_cons_zero, List.set_cons_succ, List.map_cons, List.map_nil, List.cons_append, List.nil_append, List.replicate, Nat.reduceSub, Nat.reduceAdd, Nat.zero_add, Option.some.injEq, true_and, and_true, if_true, eq_self, Option.some.injEq, hn, Res.bind]) ?_
  by_cases d0 : s0 = ("sign" : Str)
  · have x0 : decide (s0 = ("sign" : Str)) = true := decide_eq_true d0
    refine seqSkip (by simp only [runS_seq, runS_sb, runS_nx, runS_rt, run_bind, run_ok, run_body, run_call, run_noEx, mSet, mIf, mRet, mExpr, mNext, mAsg, mAug, mFor, gBin, gTest, gAnd, gOr, gNot, gAndV, gOrV, gNotV, gIfE, gCb, gMt, gLst, gTup, gSl, gLc, aCons, aNil, eVar, eC, pSome, pNone, tgName, tgCons, tgNil, L2.start, vInt, vStr, vRef, vBl, Hf.l1, Hf.l2, Option.go, Res.or, List.length_cons, List.length_nil, List.getElem?_cons_zero, List.getElem?_cons_succ, List.set_cons_zero, List.set_cons_succ, List.map_cons, List.map_nil, List.cons_append, List.nil_append, List.replicate, Nat.reduceSub, Nat.reduceAdd, Nat.zero_add, Option.some.injEq, true_and, and_true, if_true, eq_self, Option.some.injEq, e0, oNe_tx, x0, Bool.not_true, Res.bind]) ?_
    by_cases d1 : sort = ("sign" : Str)
    · have x1 : decide (sort = ("sign" : Str)) = true := decide_eq_true d1
      refine seqRet (by simp only [runS_seq, runS_sb, runS_nx, runS_rt, run_bind, run_ok, run_body, run_call, run_noEx, mSet, mIf, mRet, mExpr, mNext, mAsg, mAug, mFor, gBin, gTest, gAnd, gOr, gNot, gAndV, gOrV, gNotV, gIfE, gCb, gMt, gLst, gTup, gSl, gLc, aCons, aNil, eVar, eC, pSome, pNone, tgName, tgCons, tgNil, L2.start, vInt, vStr, vRef, vBl, Hf.l1, Hf.l2, Option.go, Res.or, List.length_cons, List.length_nil, List.getElem?_cons_zero, List.getElem?_cons_succ, List.set_cons_zero, List.set_cons_succ, List.map_cons, List.map_nil, List.cons_append, List.nil_append, List.replicate, Nat.reduceSub, Nat.reduceAdd, Nat.zero_add, Option.some.injEq, true_and, and_true, if_true, eq_self, Option.some.injEq, e0, oEq_tx, x0, x1, Res.bind]) ?_
      have hl1 := h0.len
      have hl2 := h1.len
      have el : (tx w0).length + (tx w).length ≤ sizeLine := by
        rw [tx_len, tx_len]
        exact Nat.le_trans (show _ ≤ 1000 by omega) (small _)
      have et : ([.str "-->", .str "--", .str "->>"] : List V) = [[45, 45, 62], [45, 45], [45, 62, 62]].map fun x => V.str (tx x) := by decide +kernel
      have hcw : w[0]? = some c := by rw [hw]; rfl
      simp only [runS_seq, runS_sb, runS_nx, runS_rt, run_bind, run_ok, run_body, run_call, run_noEx, mSet, mIf, mRet, mExpr, mNext, mAsg, mAug, mFor, gBin, gTest, gAnd, gOr, gNot, gAndV, gOrV, gNotV, gIfE, gCb, gMt, gLst, gTup, gSl, gLc, aCons, aNil, eVar, eC, pSome, pNone, tgName, tgCons, tgNil, L2.start, vInt, vStr, vRef, vBl, Hf.l1, Hf.l2, Option.go, Res.or, List.length_cons, List.length_nil, List.getElem?_cons_zero, List.getElem?_cons_succ, List.set_cons_zero, List.set_cons_succ, List.map_cons, List.map_nil, List.cons_append, List.nil_append, List.replicate, Nat.reduceSub, Nat.reduceAdd, Nat.zero_add, Option.some.injEq, true_and, and_true, if_true, eq_self, Option.some.injEq, e1, oAdd_str el, tx_cat, run_newL]
      refine ⟨small _, ?_⟩
      rw [et, oNotIn_txs (At.new (S := S)).seqL, run_ok]
      have hr2 := hr.push (o' := Ob.lst ([[45, 45, 62], [45, 45], [45, 62, 62]].map fun x => V.str (tx x)))
      have hf2 : Fr0 S (S.push (Ob.lst ([[45, 45, 62], [45, 45], [45, 62, 62]].map fun x => V.str (tx x)))) := .push
      generalize S.push (Ob.lst ([[45, 45, 62], [45, 45], [45, 62, 62]].map fun x => V.str (tx x))) = S2 at *
      cases !decide (w0 ++ w ∈ [[45, 45, 62], [45, 45], [45, 62, 62]]) with
      | false =>
        simp only [runS_seq, runS_sb, runS_nx, runS_rt, run_bind, run_ok, run_body, run_call, run_noEx, mSet, mIf, mRet, mExpr, mNext, mAsg, mAug, mFor, gBin, gTest, gAnd, gOr, gNot, gAndV, gOrV, gNotV, gIfE, gCb, gMt, gLst, gTup, gSl, gLc, aCons, aNil, eVar, eC, pSome, pNone, tgName, tgCons, tgNil, L2.start, vInt, vStr, vRef, vBl, Hf.l1, Hf.l2, Option.go, Res.or, List.length_cons, List.length_nil, List.getElem?_cons_zero, List.getElem?_cons_succ, List.set_cons_zero, List.set_cons_succ, List.map_cons, List.map_nil, List.cons_append, List.nil_append, List.replicate, Nat.reduceSub, Nat.reduceAdd, Nat.zero_add, Option.some.injEq, true_and, and_true, if_true, eq_self, Option.some.injEq]
        exact ⟨false, rfl, hf2, fun h => nomatch h⟩
      | true =>
        have es : mStart (.str (tx (w0 ++ w))) [.str "--"] S2 = .ok (.bl (Txt.startswith (tx (w0 ++ w)) "--")) S2 := rfl
        simp only [runS_seq, runS_sb, runS_nx, runS_rt, run_bind, run_ok, run_body, run_call, run_noEx, mSet, mIf, mRet, mExpr, mNext, mAsg, mAug, mFor, gBin, gTest, gAnd, gOr, gNot, gAndV, gOrV, gNotV, gIfE, gCb, gMt, gLst, gTup, gSl, gLc, aCons, aNil, eVar, eC, pSome, pNone, tgName, tgCons, tgNil, L2.start, vInt, vStr, vRef, vBl, Hf.l1, Hf.l2, Option.go, Res.or, List.length_cons, List.length_nil, List.getElem?_cons_zero, List.getElem?_cons_succ, List.set_cons_zero, List.set_cons_succ, List.map_cons, List.map_nil, List.cons_append, List.nil_append, List.replicate, Nat.reduceSub, Nat.reduceAdd, Nat.zero_add, Option.some.injEq, true_and, and_true, if_true, eq_self, Option.some.injEq, isTy_str, es]
        cases Txt.startswith (tx (w0 ++ w)) "--" with
        | true =>
          simp only [runS_seq, runS_sb, runS_nx, runS_rt, run_bind, run_ok, run_body, run_call, run_noEx, mSet, mIf, mRet, mExpr, mNext, mAsg, mAug, mFor, gBin, gTest, gAnd, gOr, gNot, gAndV, gOrV, gNotV, gIfE, gCb, gMt, gLst, gTup, gSl, gLc, aCons, aNil, eVar, eC, pSome, pNone, tgName, tgCons, tgNil, L2.start, vInt, vStr, vRef, vBl, Hf.l1, Hf.l2, Option.go, Res.or, List.length_cons, List.length_nil, List.getElem?_cons_zero, List.getElem?_cons_succ, List.set_cons_zero, List.set_cons_succ, List.map_cons, List.map_nil, List.cons_append, List.nil_append, List.replicate, Nat.reduceSub, Nat.reduceAdd, Nat.zero_add, Option.some.injEq, true_and, and_true, if_true, eq_self, Option.some.injEq, Bool.not_true]
          exact ⟨false, rfl, hf2, fun h => nomatch h⟩
        | false =>
          have i02 := iSeq_tx (S := S2) (n := 0) (Nat.le_trans (show w.length ≤ 1000 by omega) (small _)) hcw
          have i02' : iSeq (.str (tx w)) (.int 0) S2 = .ok (.str (tx [c])) S2 := i02
          simp only [runS_seq, runS_sb, runS_nx, runS_rt, run_bind, run_ok, run_body, run_call, run_noEx, mSet, mIf, mRet, mExpr, mNext, mAsg, mAug, mFor, gBin, gTest, gAnd, gOr, gNot, gAndV, gOrV, gNotV, gIfE, gCb, gMt, gLst, gTup, gSl, gLc, aCons, aNil, eVar, eC, pSome, pNone, tgName, tgCons, tgNil, L2.start, vInt, vStr, vRef, vBl, Hf.l1, Hf.l2, Option.go, Res.or, List.length_cons, List.length_nil, List.getElem?_cons_zero, List.getElem?_cons_succ, List.set_cons_zero, List.set_cons_succ, List.map_cons, List.map_nil, List.cons_append, List.nil_append, List.replicate, Nat.reduceSub, Nat.reduceAdd, Nat.zero_add, Option.some.injEq, true_and, and_true, if_true, eq_self, Option.some.injEq, Bool.not_false, iSeq_lst hr2 i1, i02', run_newL]
          refine ⟨small _, ?_⟩
          have ha := At.new (S := S2) (o := .lst [.str (tx w0), .str (tx [c])])
          have hf3 : Fr0 S (S2.push (.lst [.str (tx w0), .str (tx [c])])) := hf2.trans .push
          generalize S2.push (.lst [.str (tx w0), .str (tx [c])]) = S3 at *
          refine (law_grow_ok).imp fun v S4 z => ?_
          obtain ⟨hf4, hd, q, rfl⟩ := z
          have hd2 : dat DEPTH S4 (.ref S2.n) = some (.list [.str (tx w0), .str (tx [c])]) := dat_lst (n := 63) (ha.fr0 hf4) (mapO_cons dat_str (mapO_cons dat_str mapO_nil))
          have s1 : Sh 1 (.list [.str (tx w0), .str (tx [c])]) := sh_list (by
            intro d hd
            simp only [List.mem_cons, List.not_mem_nil, or_false] at hd
            rcases hd with rfl | rfl
            · exact sh_tx h0.asc
            · refine sh_tx fun c' hc' => ?_
              rw [List.mem_singleton.mp hc']
              exact h1.asc c (by rw [hw]; exact List.mem_cons_self ..))
          have s2 : Sh 2 (.list growP) := ⟨by decide +kernel, by decide +kernel⟩
          rw [oNotInD_eq hd2 hd (s1.mono (show 1 ≤ 2 by decide)) s2 (by decide) _ rfl, run_ok]
          refine ⟨_, rfl, hf3.trans hf4, fun hb rest => ⟨fun h => absurd d0 h, fun _ => ⟨fun e => ?_, fun e => ?_⟩⟩⟩
          · have nm : ∀ p ∈ growD, (tx w0, tx [c]) ≠ p := fun p hp e => by
              have : (growP.any fun z => PyData.eqv z (.list [.str (tx w0), .str (tx [c])])) = true := by
                refine List.any_eq_true.mpr ⟨.list [.str (tx w0), .str (tx [c])], ?_, s1.refl⟩
                refine List.mem_map.mpr ⟨p, hp, ?_⟩
                rw [← e]
              rw [this] at hb
              cases hb
            subst e
            rw [hw]
            refine ⟨fun e => ?_, fun e => ?_⟩
            · cases e
              exact nm ("-", ">") (by decide +kernel) (by decide +kernel)
            · cases e
              exact nm ("-", "-") (by decide +kernel) (by decide +kernel)
          · have nm : ∀ p ∈ growD, (tx w0, tx [c]) ≠ p := fun p hp e => by
              have : (growP.any fun z => PyData.eqv z (.list [.str (tx w0), .str (tx [c])])) = true := by
                refine List.any_eq_true.mpr ⟨.list [.str (tx w0), .str (tx [c])], ?_, s1.refl⟩
                refine List.mem_map.mpr ⟨p, hp, ?_⟩
                rw [← e]
              rw [this] at hb
              cases hb
            subst e
            rw [hw]
            intro e
            cases e
            exact nm ("=", "=") (by decide +kernel) (by decide +kernel)
    · have x1 : decide (sort = ("sign" : Str)) = false := decide_eq_false d1
      refine seqSkip (by simp only [runS_seq, runS_sb, runS_nx, runS_rt, run_bind, run_ok, run_body, run_call, run_noEx, mSet, mIf, mRet, mExpr, mNext, mAsg, mAug, mFor, gBin, gTest, gAnd, gOr, gNot, gAndV, gOrV, gNotV, gIfE, gCb, gMt, gLst, gTup, gSl, gLc, aCons, aNil, eVar, eC, pSome, pNone, tgName, tgCons, tgNil, L2.start, vInt, vStr, vRef, vBl, Hf.l1, Hf.l2, Option.go, Res.or, List.length_cons, List.length_nil, List.getElem?_cons_zero, List.getElem?_cons_succ, List.set_cons_zero, List.set_cons_succ, List.map_cons, List.map_nil, List.cons_append, List.nil_append, List.replicate, Nat.reduceSub, Nat.reduceAdd, Nat.zero_add, Option.some.injEq, true_and, and_true, if_true, eq_self, Option.some.injEq, e0, oEq_tx, x0, x1, Res.bind]) ?_
      refine ⟨true, rfl, .refl, fun _ rest => ⟨fun h => absurd d0 h, fun _ => ?_⟩⟩
      rcases hc with ⟨h, _⟩ | ⟨_, hc1, hc2, hc3⟩
      · exact absurd h d1
      · rw [hw]
        exact ⟨fun _ => ⟨fun e => hc1 (by cases e; rfl), fun e => hc2 (by cases e; rfl)⟩, fun _ e => hc3 (by cases e; rfl)⟩
  · have x0 : decide (s0 = ("sign" : Str)) = false := decide_eq_false d0
    by_cases d1 : sort = ("sign" : Str)
    · have x1 : decide (sort = ("sign" : Str)) = true := decide_eq_true d1
      refine seqSkip (by simp only [runS_seq, runS_sb, runS_nx, runS_rt, run_bind, run_ok, run_body, run_call, run_noEx, mSet, mIf, mRet, mExpr, mNext, mAsg, mAug, mFor, gBin, gTest, gAnd, gOr, gNot, gAndV, gOrV, gNotV, gIfE, gCb, gMt, gLst, gTup, gSl, gLc, aCons, aNil, eVar, eC, pSome, pNone, tgName, tgCons, tgNil, L2.start, vInt, vStr, vRef, vBl, Hf.l1, Hf.l2, Option.go, Res.or, List.length_cons, List.length_nil, List.getElem?_cons_zero, List.getElem?_cons_succ, List.set_cons_zero, List.set_cons_succ, List.map_cons, List.map_nil, List.cons_append, List.nil_append, List.replicate, Nat.reduceSub, Nat.reduceAdd, Nat.zero_add, Option.some.injEq, true_and, and_true, if_true, eq_self, Option.some.injEq, e0, oNe_tx, x0, x1, Bool.not_true, Bool.not_false, Res.bind]) ?_
      refine seqSkip (by simp only [runS_seq, runS_sb, runS_nx, runS_rt, run_bind, run_ok, run_body, run_call, run_noEx, mSet, mIf, mRet, mExpr, mNext, mAsg, mAug, mFor, gBin, gTest, gAnd, gOr, gNot, gAndV, gOrV, gNotV, gIfE, gCb, gMt, gLst, gTup, gSl, gLc, aCons, aNil, eVar, eC, pSome, pNone, tgName, tgCons, tgNil, L2.start, vInt, vStr, vRef, vBl, Hf.l1, Hf.l2, Option.go, Res.or, List.length_cons, List.length_nil, List.getElem?_cons_zero, List.getElem?_cons_succ, List.set_cons_zero, List.set_cons_succ, List.map_cons, List.map_nil, List.cons_append, List.nil_append, List.replicate, Nat.reduceSub, Nat.reduceAdd, Nat.zero_add, Option.some.injEq, true_and, and_true, if_true, eq_self, Option.some.injEq, e0, oEq_tx, x0, x1, Res.bind]) ?_
      refine ⟨true, rfl, .refl, fun _ rest => ⟨fun _ d hd => ?_, fun h => absurd h d0⟩⟩
      rcases hc with ⟨_, hc⟩ | ⟨h, _⟩
      · rw [hw] at hd
        cases hd
        exact hc
      · exact absurd d1 h
    · have x1 : decide (sort = ("sign" : Str)) = false := decide_eq_false d1
      refine seqRet (by simp only [runS_seq, runS_sb, runS_nx, runS_rt, run_bind, run_ok, run_body, run_call, run_noEx, mSet, mIf, mRet, mExpr, mNext, mAsg, mAug, mFor, gBin, gTest, gAnd, gOr, gNot, gAndV, gOrV, gNotV, gIfE, gCb, gMt, gLst, gTup, gSl, gLc, aCons, aNil, eVar, eC, pSome, pNone, tgName, tgCons, tgNil, L2.start, vInt, vStr, vRef, vBl, Hf.l1, Hf.l2, Option.go, Res.or, List.length_cons, List.length_nil, List.getElem?_cons_zero, List.getElem?_cons_succ, List.set_cons_zero, List.set_cons_succ, List.map_cons, List.map_nil, List.cons_append, List.nil_append, List.replicate, Nat.reduceSub, Nat.reduceAdd, Nat.zero_add, Option.some.injEq, true_and, and_true, if_true, eq_self, Option.some.injEq, e0, oNe_tx, x0, x1, Bool.not_false, Res.bind]) ?_
      exact ⟨false, rfl, .refl, fun h => nomatch h⟩

/-! ### law_row -/
def LTokAt (S : Sto) (lo : Nat) (v : V) (t : FTok) : Prop := ∃ x y, v = .ref x ∧ lo ≤ x ∧ lo ≤ y ∧ At S x (.lst [.ref y, .str t.2.2.1, .str (tx t.2.2.2)]) ∧ At S y (.tup [.int t.1, .int (t.2.1 : Nat)])
def LTs (S : Sto) (lo : Nat) : List V → List FTok → Prop
  | [], [] => True
  | v :: vs, t :: ts => LTokAt S lo v t ∧ LTs S lo vs ts
  | _, _ => False
theorem LTs.app {S : Sto} {lo : Nat} : ∀ {vs : List V} {ts : List FTok} {ws : List V} {us : List FTok}, LTs S lo vs ts → LTs S lo ws us → LTs S lo (vs ++ ws) (ts ++ us)
  | [], [], _, _, _, h => h
  | _ :: _, _ :: _, _, _, h, h2 => ⟨h.1, LTs.app h.2 h2⟩
theorem LTs.fr {S S' : Sto} {lo : Nat} {M : Nat → Prop} (f : Fr M S S') (hM : ∀ i, lo ≤ i → ¬ M i) : ∀ {vs : List V} {ts : List FTok}, LTs S lo vs ts → LTs S' lo vs ts
  | [], [], _ => trivial
  | _ :: _, _ :: _, ⟨⟨x, y, e, h1, h2, h3, h4⟩, h⟩ => ⟨⟨x, y, e, h1, h2, h3.fr f (hM x h1), h4.fr f (hM y h2)⟩, LTs.fr f hM h⟩
theorem LTs.lo {S : Sto} {lo lo' : Nat} (hl : lo' ≤ lo) : ∀ {vs : List V} {ts : List FTok}, LTs S lo vs ts → LTs S lo' vs ts
  | [], [], _ => trivial
  | _ :: _, _ :: _, ⟨⟨x, y, e, h1, h2, h3, h4⟩, h⟩ => ⟨⟨x, y, e, Nat.le_trans hl h1, Nat.le_trans hl h2, h3, h4⟩, LTs.lo hl h⟩
theorem LTs.length {S : Sto} {lo : Nat} : ∀ {vs : List V} {ts : List FTok}, LTs S lo vs ts → vs.length = ts.length
  | [], [], _ => rfl
  | _ :: vs, _ :: ts, h => congrArg (· + 1) (LTs.length h.2)
def TsOK (ts : List Tok) : Prop := ∀ t ∈ ts, Sh 0 (.str t.2.1) ∧ ∀ c ∈ t.2.2, c < 128
theorem Good.sort {sort : Str} {w : List Nat} (h : Good sort w) : Sh 0 (.str sort) := by
  rcases h with ⟨h1, _⟩ | ⟨h1, _⟩ | ⟨h1, _⟩ | ⟨h1, _⟩
  · rw [h1]
    split <;> exact sh_str (by decide +kernel)
  all_goals
    rw [h1]
    exact sh_str (by decide +kernel)
theorem lx_blanks {rest : List Nat} {ts : List Tok} : ∀ (n a : Nat), Lx rest (a + n) ts → Lx (List.replicate n 32 ++ rest) a ts
  | 0, a, h => h
  | n + 1, a, h => by
    rw [List.replicate_succ, List.cons_append]
    exact .blank (lx_blanks n (a + 1) (by rw [show a + 1 + n = a + (n + 1) by omega]; exact h))
def AftL : Option (Str × List Nat) → List Nat → Prop
  | none, _ => True
  | some p, rest => Aft p.1 p.2 rest
theorem aftL_nil : ∀ {last}, AftL last []
  | none => trivial
  | some _ => aft_nil
theorem aftL_blank {rest : List Nat} : ∀ {last}, AftL last (32 :: rest)
  | none => trivial
  | some _ => aft_blank
theorem aftL_blanks {rest : List Nat} {last} (n : Nat) (h : AftL last rest) : AftL last (List.replicate n 32 ++ rest) := by
  cases n with
  | zero => exact h
  | succ n => exact aftL_blank
def LastAt (S : Sto) (lo : Nat) (lv : V) : Option (Str × List Nat) → Prop
  | none => lv = .non
  | some p => ∃ r, lv = .ref r ∧ lo ≤ r ∧ At S r (.lst [.str p.1, .str (tx p.2)]) ∧ Good p.1 p.2
theorem LastAt.fr {S S' : Sto} {lo : Nat} {lv : V} {M : Nat → Prop} (f : Fr M S S') (hM : ∀ i, lo ≤ i → ¬ M i) : ∀ {last}, LastAt S lo lv last → LastAt S' lo lv last
  | none, h => h
  | some _, ⟨r, e, l, a, g⟩ => ⟨r, e, l, a.fr f (hM r l), g⟩
def asc (l : List Nat) : Prop := ∀ c ∈ l, c < 128
theorem asc.app {a b : List Nat} (h : asc a) (h2 : asc b) : asc (a ++ b) := fun c hc => (List.mem_append.mp hc).elim (h c) (h2 c)
theorem asc_rep (n : Nat) : asc (List.replicate n 32) := fun c hc => by
  rw [(List.mem_replicate.mp hc).2]
  decide
/-- blanks, as many as are taken -/
theorem oMul_blank {g : Int} {S : Sto} (h0 : 0 ≤ g) (h1 : g ≤ 1000) : oMul (.str (" " : Str)) (.int g) S = .ok (.str (tx (List.replicate g.toNat 32))) S := by
  have e : ((" " : Str)) = tx [32] := by decide +kernel
  have hc : cRepS (" " : Str) g = true := by
    unfold cRepS
    rw [decide_eq_true (show -(2 ^ 30) ≤ g by omega), decide_eq_true (show g < 2 ^ 20 by omega), e]
    rfl
  rw [oMul_str hc, e, rep_one]
theorem oAdd_line {a b : List Nat} {S : Sto} (h : a.length + b.length ≤ 1000) : oAdd (.str (tx a)) (.str (tx b)) S = .ok (.str (tx (a ++ b))) S := by
  rw [oAdd_str (by rw [tx_len, tx_len]; exact small _ h), tx_cat]
def RowSt (S0 : Sto) (p : Nat) (num steps : Int) (f : Nat) (line : List Nat) (ts : List Tok) (lv : V) (last : Option (Str × List Nat)) (S' : Sto) : Prop :=
  Fr1 p S0 S' ∧ (∃ xs, At S' f (.lst xs) ∧ LTs S' (f + 1) xs (ts.map fun t => (num, t))) ∧ ts.length ≤ 100 ∧ asc line ∧ TsOK ts ∧ LastAt S' (f + 1) lv last ∧ S0.n ≤ f ∧ p < S0.n
def Cont (line : List Nat) (ts : List Tok) (last : Option (Str × List Nat)) : Prop := ∀ rest ts', AftL last rest → Lx rest line.length ts' → Lx (line ++ rest) 0 (ts ++ ts')
theorem RowSt.fr {S0 S1 S2 : Sto} {p f : Nat} {num steps : Int} {line : List Nat} {ts : List Tok} {lv : V} {last} (h : RowSt S0 p num steps f line ts lv last S1) (hf : Fr1 p S1 S2) : RowSt S0 p num steps f line ts lv last S2 := by
  obtain ⟨h1, ⟨xs, h2, h3⟩, h4, h5, h6, h7, h8, h9⟩ := h
  have hM : ∀ i, f + 1 ≤ i → ¬ (i = p) := fun i hi e => by omega
  exact ⟨h1.trans hf, ⟨xs, h2.fr hf (by omega), h3.fr hf hM⟩, h4, h5, h6, h7.fr hf hM, h8, h9⟩
def commentTails : List (List Nat) := [[108, 101, 116, 32, 120], [45], [], [65, 57, 32, 63]]
theorem eTails : ([.str "let x", .str "-", .str "", .str "A9 ?"] : List V) = commentTails.map fun x => V.str (tx x) := by decide +kernel
theorem law_row_ok {p : Nat} {k num steps : Int} {S : Sto} (h : Pu S p k) (hk : k ≤ 5000) (h1 : 0 ≤ steps) (h2 : steps ≤ 6) :
    Run (f_law_row [.ref p, .int num, .int steps] S) fun v S' => ∃ q f line ts xs, v = .ref q ∧ At S' q (.lst [.str (tx line), .ref f]) ∧ S.n ≤ q ∧ S.n ≤ f ∧ At S' f (.lst xs) ∧ LTs S' S.n xs (ts.map fun t => (num, t)) ∧ ts.length ≤ 100
      ∧ TsOK ts ∧ Lx line 0 ts ∧ line.length ≤ 110 ∧ asc line ∧ Fr1 p S S' ∧ Pu S' p (k + 100) := by
  unfold f_law_row
  rw [run_body]
  unfold m_law_row
  generalize hF : FUEL = F
  simp only [L2.start, List.map_cons, List.map_nil, List.length_cons, List.length_nil, Nat.reduceAdd, Nat.reduceSub, List.replicate, List.cons_append, List.nil_append]
  have e1 : Run (gBin oMul (eC (.str " ")) (gCall 2 f_law_take (aCons (eVar 0) (aCons (eC (.int 9)) aNil))) [some (.ref p), some (.int num), some (.int steps), none, none, none, none, none, none] S)
      fun v S' => ∃ n, v = .str (tx (List.replicate n 32)) ∧ n ≤ 8 ∧ Fr1 p S S' ∧ Pu S' p (k + 1) ∧ S'.n = S.n := by
    simp only [runS_seq, runS_sb, runS_nx, runS_rt, run_bind, run_ok, run_body, run_call, run_noEx, mSet, mIf, mRet, mExpr, mNext, mAsg, mAug, mFor, gBin, gTest, gAnd, gOr, gNot, gAndV, gOrV, gNotV, gIfE, gCb, gMt, gLst, gTup, gSl, gLc, aCons, aNil, eVar, eC, pSome, pNone, tgName, tgCons, tgNil, L2.start, vInt, vStr, vRef, vBl, Hf.l1, Hf.l2, Option.go, Res.or, List.length_cons, List.length_nil, List.getElem?_cons_zero, List.getElem?_cons_succ, List.set_cons_zero, List.set_cons_succ, List.map_cons, List.map_nil, List.cons_append, List.nil_append, List.replicate, Nat.reduceSub, Nat.reduceAdd, Nat.zero_add, Option.some.injEq, true_and, and_true, if_true, eq_self, Option.some.injEq]
    refine (law_take_ok h (by omega) (by decide) (by decide)).imp fun v S' z => ?_
    obtain ⟨g, rfl, g1, g2, hf, h, hn⟩ := z
    rw [oMul_blank g1 (by omega), run_ok]
    exact ⟨g.toNat, rfl, by omega, hf, h, hn⟩
  refine seqSet (e1.imp fun v S1 z => ?_)
  obtain ⟨n0, rfl, hn0, hf1, hp1, hn1⟩ := z
  have hlt := h.lt
  refine seqSetOk (x := .ref S1.n) (S1 := S1.push (.lst [])) rfl ?_
  refine seqSetOk (x := .non) (S1 := S1.push (.lst [])) rfl ?_
  simp only [List.set_cons_zero, List.set_cons_succ]
  have hst0 : RowSt S p num steps S1.n (List.replicate n0 32) [] .non none (S1.push (.lst [])) := ⟨hf1.trans .push, ⟨[], At.new, trivial⟩, Nat.zero_le _, asc_rep _, fun _ h => (nomatch h), rfl, by omega, hlt⟩
  have hc0 : Cont (List.replicate n0 32) [] none := fun rest ts' _ hL => lx_blanks n0 0 (by rw [List.length_replicate] at hL; rw [Nat.zero_add]; exact hL)
  have hp0 : Pu (S1.push (.lst [])) p (k + 1) := hp1.fr (Fr.push (M := fun _ => False)) id
  have hf0 : S1.n ≠ p := by omega
  generalize S1.n = f at *
  generalize S1.push (.lst []) = S2 at *
  refine seqMid (fun σ' S' => ∃ line ts lv last e6 e7 e8, σ' = [some (.ref p), some (.int num), some (.int steps), some (.str (tx line)), some (.ref f), some lv, e6, e7, e8] ∧ RowSt S p num steps f line ts lv last S' ∧ Cont line ts last ∧ Pu S' p (k + 1 + 15 * 6) ∧ line.length ≤ 87) ?loop ?rest
  case loop =>
    refine (show RunS (Res.sb (wRng1 (aCons (eVar 2) aNil) _ _) _ _) _ _ from ?_)
    rw [runS_sb]
    simp only [wRng1, aCons, aNil, eVar, List.getElem?_cons_zero, List.getElem?_cons_succ, run_bind, run_ok, Hf.l1, Option.go, vInt, rngOk_to (show -(2 ^ 62) ≤ steps by omega) (show steps < 2 ^ 62 by omega), if_true]
    refine for_run steps.toNat (J := fun i σ' S' => ∃ line ts lv last e6 e7 e8, σ' = [some (.ref p), some (.int num), some (.int steps), some (.str (tx line)), some (.ref f), some lv, e6, e7, e8] ∧ RowSt S p num steps f line ts lv last S' ∧ ts.length ≤ i ∧ Cont line ts last ∧ Pu S' p (k + 1 + 15 * i) ∧ line.length ≤ 87) ?_ ?_ F 0 _ _
      ⟨_, [], .non, none, none, none, none, rfl, hst0, Nat.zero_le _, hc0, hp0.mono (by omega), by rw [List.length_replicate]; omega⟩ (Nat.zero_le _) (by rw [← hF]; unfold FUEL; omega)
    · rintro i σ' S' hi ⟨line, ts, lv, last, e6, e7, e8, rfl, hst, htl, hc, hpu, hll⟩
      refine ⟨_, S', wkn_rng hi, ?_⟩
      show RunS (mSeq _ _ _ _) _ _
      simp only [List.set_cons_zero, List.set_cons_succ]
      have ew : Run (gCall 1 f_law_word (aCons (eVar 0) aNil) [some (.ref p), some (.int num), some (.int steps), some (.str (tx line)), some (.ref f), some lv, some (.int (0 + (i : Nat))), e7, e8] S') fun v S3 =>
          ∃ q sort w, v = .ref q ∧ At S3 q (.lst [.str sort, .str (tx w)]) ∧ S'.n ≤ q ∧ Good sort w ∧ Fr1 p S' S3 ∧ Pu S3 p (k + 1 + 15 * i + 12) := by
        simp only [runS_seq, runS_sb, runS_nx, runS_rt, run_bind, run_ok, run_body, run_call, run_noEx, mSet, mIf, mRet, mExpr, mNext, mAsg, mAug, mFor, gBin, gTest, gAnd, gOr, gNot, gAndV, gOrV, gNotV, gIfE, gCb, gMt, gLst, gTup, gSl, gLc, aCons, aNil, eVar, eC, pSome, pNone, tgName, tgCons, tgNil, L2.start, vInt, vStr, vRef, vBl, Hf.l1, Hf.l2, Option.go, Res.or, List.length_cons, List.length_nil, List.getElem?_cons_zero, List.getElem?_cons_succ, List.set_cons_zero, List.set_cons_succ, List.map_cons, List.map_nil, List.cons_append, List.nil_append, List.replicate, Nat.reduceSub, Nat.reduceAdd, Nat.zero_add, Option.some.injEq, true_and, and_true, if_true, eq_self, Option.some.injEq]
        exact law_word_ok hpu (by omega)
      refine seqAsg (ew.imp fun v S3 z => ?_)
      obtain ⟨q, sort, w, rfl, hq, hqn, hgood, hf3, hp3⟩ := z
      rw [un2L hq, run_ok]
      simp only [List.set_cons_zero, List.set_cons_succ]
      have hst3 := hst.fr hf3
      have hL1000 : line.length ≤ sizeLine := small _ (by omega)
      by_cases c55 : line.length < 55
      · have x55 : decide ((line.length : Int) < 55) = true := decide_eq_true (by omega)
        refine midIfT (S1 := S3) (by simp only [runS_seq, runS_sb, runS_nx, runS_rt, run_bind, run_ok, run_body, run_call, run_noEx, mSet, mIf, mRet, mExpr, mNext, mAsg, mAug, mFor, gBin, gTest, gAnd, gOr, gNot, gAndV, gOrV, gNotV, gIfE, gCb, gMt, gLst, gTup, gSl, gLc, aCons, aNil, eVar, eC, pSome, pNone, tgName, tgCons, tgNil, L2.start, vInt, vStr, vRef, vBl, Hf.l1, Hf.l2, Option.go, Res.or, List.length_cons, List.length_nil, List.getElem?_cons_zero, List.getElem?_cons_succ, List.set_cons_zero, List.set_cons_succ, List.map_cons, List.map_nil, List.cons_append, List.nil_append, List.replicate, Nat.reduceSub, Nat.reduceAdd, Nat.zero_add, Option.some.injEq, true_and, and_true, if_true, eq_self, Option.some.injEq, bLen_tx hL1000, oLt_int, x55, Res.bind]) ?_
        have hgl := hgood.len
        -- the blanks before
        refine seqMid (fun σ' S4 => ∃ line', σ' = [some (.ref p), some (.int num), some (.int steps), some (.str (tx line')), some (.ref f), some lv, some (.int (0 + (i : Nat))), some (.str sort), some (.str (tx w))] ∧ RowSt S p num steps f line' ts lv last S4
          ∧ line'.length ≤ 57 ∧ Pu S4 p (k + 1 + 15 * i + 14) ∧ ∀ rest ts', Lx (w ++ rest) line'.length ts' → Lx (line' ++ (w ++ rest)) 0 (ts ++ ts')) ?blanks ?more
        case blanks =>
          refine midIf ?_
          have hcond : Run (gOr (gTest (gBin oGt (gCall 2 f_law_take (aCons (eVar 0) (aCons (eC (V.int 3)) aNil))) (eC (V.int 0)))) (gNot (gTest (gCall 3 f_law_touches (aCons (eVar 7) (aCons (eVar 8) (aCons (eVar 5) aNil)))))) [some (.ref p), some (.int num), some (.int steps), some (.str (tx line)), some (.ref f), some lv, some (.int (0 + (i : Nat))), some (.str sort), some (.str (tx w))] S3)
              fun b S4 => RowSt S p num steps f line ts lv last S4 ∧ Pu S4 p (k + 1 + 15 * i + 13) ∧ (b = false → ∀ rest, AftL last (w ++ rest)) := by
            simp only [runS_seq, runS_sb, runS_nx, runS_rt, run_bind, run_ok, run_body, run_call, run_noEx, mSet, mIf, mRet, mExpr, mNext, mAsg, mAug, mFor, gBin, gTest, gAnd, gOr, gNot, gAndV, gOrV, gNotV, gIfE, gCb, gMt, gLst, gTup, gSl, gLc, aCons, aNil, eVar, eC, pSome, pNone, tgName, tgCons, tgNil, L2.start, vInt, vStr, vRef, vBl, Hf.l1, Hf.l2, Option.go, Res.or, List.length_cons, List.length_nil, List.getElem?_cons_zero, List.getElem?_cons_succ, List.set_cons_zero, List.set_cons_succ, List.map_cons, List.map_nil, List.cons_append, List.nil_append, List.replicate, Nat.reduceSub, Nat.reduceAdd, Nat.zero_add, Option.some.injEq, true_and, and_true, if_true, eq_self, Option.some.injEq]
            refine (law_take_ok hp3 (by omega) (by decide) (by decide)).imp fun v S4 z => ?_
            obtain ⟨g, rfl, g1, g2, hf4, hp4, hn4⟩ := z
            simp only [oGt_int, run_ok]
            have hst4 := hst3.fr hf4
            cases decide (0 < g) with
            | true => exact ⟨hst4, hp4.mono (by omega), fun h => nomatch h⟩
            | false =>
              simp only [runS_seq, runS_sb, runS_nx, runS_rt, run_bind, run_ok, run_body, run_call, run_noEx, mSet, mIf, mRet, mExpr, mNext, mAsg, mAug, mFor, gBin, gTest, gAnd, gOr, gNot, gAndV, gOrV, gNotV, gIfE, gCb, gMt, gLst, gTup, gSl, gLc, aCons, aNil, eVar, eC, pSome, pNone, tgName, tgCons, tgNil, L2.start, vInt, vStr, vRef, vBl, Hf.l1, Hf.l2, Option.go, Res.or, List.length_cons, List.length_nil, List.getElem?_cons_zero, List.getElem?_cons_succ, List.set_cons_zero, List.set_cons_succ, List.map_cons, List.map_nil, List.cons_append, List.nil_append, List.replicate, Nat.reduceSub, Nat.reduceAdd, Nat.zero_add, Option.some.injEq, true_and, and_true, if_true, eq_self, Option.some.injEq]
              obtain ⟨y1, y2, y3, y4, y5, hlast, y7⟩ := id hst4
              cases last with
              | none =>
                cases hlast
                rw [touch_none]
                simp only [runS_seq, runS_sb, runS_nx, runS_rt, run_bind, run_ok, run_body, run_call, run_noEx, mSet, mIf, mRet, mExpr, mNext, mAsg, mAug, mFor, gBin, gTest, gAnd, gOr, gNot, gAndV, gOrV, gNotV, gIfE, gCb, gMt, gLst, gTup, gSl, gLc, aCons, aNil, eVar, eC, pSome, pNone, tgName, tgCons, tgNil, L2.start, vInt, vStr, vRef, vBl, Hf.l1, Hf.l2, Option.go, Res.or, List.length_cons, List.length_nil, List.getElem?_cons_zero, List.getElem?_cons_succ, List.set_cons_zero, List.set_cons_succ, List.map_cons, List.map_nil, List.cons_append, List.nil_append, List.replicate, Nat.reduceSub, Nat.reduceAdd, Nat.zero_add, Option.some.injEq, true_and, and_true, if_true, eq_self, Option.some.injEq]
                exact ⟨hst4, hp4.mono (by omega), fun _ _ => trivial⟩
              | some pr =>
                obtain ⟨r, rfl, hrlo, hr, hg0⟩ := hlast
                refine (touch_some hr hg0 hgood).imp fun v S5 z => ?_
                obtain ⟨b, rfl, hf5, hb⟩ := z
                simp only [runS_seq, runS_sb, runS_nx, runS_rt, run_bind, run_ok, run_body, run_call, run_noEx, mSet, mIf, mRet, mExpr, mNext, mAsg, mAug, mFor, gBin, gTest, gAnd, gOr, gNot, gAndV, gOrV, gNotV, gIfE, gCb, gMt, gLst, gTup, gSl, gLc, aCons, aNil, eVar, eC, pSome, pNone, tgName, tgCons, tgNil, L2.start, vInt, vStr, vRef, vBl, Hf.l1, Hf.l2, Option.go, Res.or, List.length_cons, List.length_nil, List.getElem?_cons_zero, List.getElem?_cons_succ, List.set_cons_zero, List.set_cons_succ, List.map_cons, List.map_nil, List.cons_append, List.nil_append, List.replicate, Nat.reduceSub, Nat.reduceAdd, Nat.zero_add, Option.some.injEq, true_and, and_true, if_true, eq_self, Option.some.injEq]
                refine ⟨hst4.fr hf5.of0, (hp4.fr hf5 id).mono (by omega), fun e => ?_⟩
                cases b with
                | true => exact hb rfl
                | false => cases e
          refine hcond.imp fun b S4 z => ?_
          obtain ⟨hst4, hp4, hb⟩ := z
          cases b with
          | false => exact ⟨line, rfl, hst4, by omega, hp4.mono (by omega), fun rest ts' hL => hc _ _ (hb rfl rest) hL⟩
          | true =>
            simp only [runS_seq, runS_sb, runS_nx, runS_rt, run_bind, run_ok, run_body, run_call, run_noEx, mSet, mIf, mRet, mExpr, mNext, mAsg, mAug, mFor, gBin, gTest, gAnd, gOr, gNot, gAndV, gOrV, gNotV, gIfE, gCb, gMt, gLst, gTup, gSl, gLc, aCons, aNil, eVar, eC, pSome, pNone, tgName, tgCons, tgNil, L2.start, vInt, vStr, vRef, vBl, Hf.l1, Hf.l2, Option.go, Res.or, List.length_cons, List.length_nil, List.getElem?_cons_zero, List.getElem?_cons_succ, List.set_cons_zero, List.set_cons_succ, List.map_cons, List.map_nil, List.cons_append, List.nil_append, List.replicate, Nat.reduceSub, Nat.reduceAdd, Nat.zero_add, Option.some.injEq, true_and, and_true, if_true, eq_self, Option.some.injEq]
            refine (law_take_ok hp4 (by omega) (by decide) (by decide)).imp fun v S5 z => ?_
            obtain ⟨g, rfl, g1, g2, hf5, hp5, hn5⟩ := z
            simp only [runS_seq, runS_sb, runS_nx, runS_rt, run_bind, run_ok, run_body, run_call, run_noEx, mSet, mIf, mRet, mExpr, mNext, mAsg, mAug, mFor, gBin, gTest, gAnd, gOr, gNot, gAndV, gOrV, gNotV, gIfE, gCb, gMt, gLst, gTup, gSl, gLc, aCons, aNil, eVar, eC, pSome, pNone, tgName, tgCons, tgNil, L2.start, vInt, vStr, vRef, vBl, Hf.l1, Hf.l2, Option.go, Res.or, List.length_cons, List.length_nil, List.getElem?_cons_zero, List.getElem?_cons_succ, List.set_cons_zero, List.set_cons_succ, List.map_cons, List.map_nil, List.cons_append, List.nil_append, List.replicate, Nat.reduceSub, Nat.reduceAdd, Nat.zero_add, Option.some.injEq, true_and, and_true, if_true, eq_self, Option.some.injEq, oAdd_int, oMul_blank (show 0 ≤ 1 + g by omega) (show 1 + g ≤ 1000 by omega)]
            rw [oAdd_line (by rw [List.length_replicate]; omega), run_ok]
            have hst5 := hst4.fr hf5
            obtain ⟨y1, y2, y3, y4, y5⟩ := hst5
            refine ⟨line ++ List.replicate (1 + g).toNat 32, rfl, ⟨y1, y2, y3, y4.app (asc_rep _), y5⟩, by rw [List.length_append, List.length_replicate]; omega, hp5.mono (by omega), fun rest ts' hL => ?_⟩
            rw [List.append_assoc]
            refine hc _ _ ?_ (lx_blanks _ _ (by rw [List.length_append, List.length_replicate] at hL; exact hL))
            rw [show (1 + g).toNat = g.toNat + 1 by omega, List.replicate_succ]
            exact aftL_blank
        case more =>
          rintro σ4 S4 ⟨line', rfl, hst4, hl57, hp4, hlx⟩
          obtain ⟨y1, ⟨xs, y2, y3⟩, y4, y5, y6, y7, y8, y9⟩ := hst4
          have hfp : f ≠ p := by omega
          have hz' : line'.length ≤ sizeLine := small _ (by omega)
          have hxl : xs.length = ts.length := by rw [y3.length, List.length_map]
          have a1 : At ((S4.push (.tup [.int num, .int ((line'.length : Int) + 1)])).push (.lst [.ref S4.n, .str sort, .str (tx w)])) S4.n (.tup [.int num, .int ((line'.length : Int) + 1)]) := At.new.push
          have a2 : At ((S4.push (.tup [.int num, .int ((line'.length : Int) + 1)])).push (.lst [.ref S4.n, .str sort, .str (tx w)])) (S4.n + 1) (.lst [.ref S4.n, .str sort, .str (tx w)]) := At.new
          have a3 : At ((S4.push (.tup [.int num, .int ((line'.length : Int) + 1)])).push (.lst [.ref S4.n, .str sort, .str (tx w)])) f (.lst xs) := y2.push.push
          have hf5 : Fr0 S4 ((S4.push (.tup [.int num, .int ((line'.length : Int) + 1)])).push (.lst [.ref S4.n, .str sort, .str (tx w)])) := Fr.push.trans .push
          have eSn : (S4.push (.tup [.int num, .int ((line'.length : Int) + 1)])).n = S4.n + 1 := rfl
          have happ := mAppend_at (v := .ref (S4.n + 1)) a3 (Nat.lt_of_le_of_lt (show xs.length ≤ 999 by omega) (small 1000))
          have hlsty := isTy_lst a3
          have hlsty4 := isTy_lst y2
          generalize hS5 : (S4.push (.tup [.int num, .int ((line'.length : Int) + 1)])).push (.lst [.ref S4.n, .str sort, .str (tx w)]) = S5 at *
          have hf6 : Fr (fun i => i = f) S5 (S5.set f (.lst (xs ++ [.ref (S4.n + 1)]))) := .set (.inr rfl)
          have a4 : At (S5.set f (.lst (xs ++ [.ref (S4.n + 1)]))) f (.lst (xs ++ [.ref (S4.n + 1)])) := a3.seti
          have hS4le := y1.le
          have hfS4 : f < S4.n := y2.lt
          have b1 : At (S5.set f (.lst (xs ++ [.ref (S4.n + 1)]))) S4.n (.tup [.int num, .int ((line'.length : Int) + 1)]) := a1.fr hf6 (by omega)
          have b2 : At (S5.set f (.lst (xs ++ [.ref (S4.n + 1)]))) (S4.n + 1) (.lst [.ref S4.n, .str sort, .str (tx w)]) := a2.fr hf6 (by omega)
          have hp6 : Pu (S5.set f (.lst (xs ++ [.ref (S4.n + 1)]))) p (k + 1 + 15 * i + 14) := (hp4.fr hf5 id).fr hf6 (Ne.symm hfp)
          have hfin : Fr1 p S (S5.set f (.lst (xs ++ [.ref (S4.n + 1)]))) := (y1.trans hf5.of0).setNew (.inl y8)
          have nT : newT [.int num, .int ((line'.length : Int) + 1)] S4 = .ok (.ref S4.n) (S4.push (.tup [.int num, .int ((line'.length : Int) + 1)])) := newT_eq (small 2)
          have nL : newL [.ref S4.n, .str sort, .str (tx w)] (S4.push (.tup [.int num, .int ((line'.length : Int) + 1)])) = .ok (.ref (S4.n + 1)) S5 := by rw [newL_eq (xs := [.ref S4.n, .str sort, .str (tx w)]) (small 3), hS5]; rfl
          refine seqExprOk (x := .non) (S1 := S5.set f (.lst (xs ++ [.ref (S4.n + 1)]))) (by simp only [runS_seq, runS_sb, runS_nx, runS_rt, run_bind, run_ok, run_body, run_call, run_noEx, mSet, mIf, mRet, mExpr, mNext, mAsg, mAug, mFor, gBin, gTest, gAnd, gOr, gNot, gAndV, gOrV, gNotV, gIfE, gCb, gMt, gLst, gTup, gSl, gLc, aCons, aNil, eVar, eC, pSome, pNone, tgName, tgCons, tgNil, L2.start, vInt, vStr, vRef, vBl, Hf.l1, Hf.l2, Option.go, Res.or, List.length_cons, List.length_nil, List.getElem?_cons_zero, List.getElem?_cons_succ, List.set_cons_zero, List.set_cons_succ, List.map_cons, List.map_nil, List.cons_append, List.nil_append, List.replicate, Nat.reduceSub, Nat.reduceAdd, Nat.zero_add, Option.some.injEq, true_and, and_true, if_true, eq_self, Option.some.injEq, Res.bind, hlsty4, bLen_tx hz', oAdd_int, nT, nL, happ]) ?_
          have c1 : Toks S5 num [] [] := trivial
          have hM : ∀ i, f + 1 ≤ i → ¬ (i = f) := fun i hi e => by omega
          have hnS6 : (S5.set f (.lst (xs ++ [.ref (S4.n + 1)]))).n = S4.n + 2 := by
            rw [← hS5]
            rfl
          have y3' : LTs (S5.set f (.lst (xs ++ [.ref (S4.n + 1)]))) (f + 1) (xs ++ [.ref (S4.n + 1)]) ((ts ++ [(line'.length + 1, sort, w)]).map fun t => (num, t)) := by
            rw [List.map_append]
            refine LTs.app ((y3.fr hf5 fun _ _ => id).fr hf6 hM) ⟨⟨S4.n + 1, S4.n, rfl, by omega, by omega, b2, ?_⟩, trivial⟩
            rw [show (((line'.length + 1 : Nat)) : Int) = (line'.length : Int) + 1 by omega]
            exact b1
          generalize S5.set f (.lst (xs ++ [.ref (S4.n + 1)])) = S6 at *
          refine seqSetOk (x := .str (tx (line' ++ w))) (S1 := S6) (by simp only [runS_seq, runS_sb, runS_nx, runS_rt, run_bind, run_ok, run_body, run_call, run_noEx, mSet, mIf, mRet, mExpr, mNext, mAsg, mAug, mFor, gBin, gTest, gAnd, gOr, gNot, gAndV, gOrV, gNotV, gIfE, gCb, gMt, gLst, gTup, gSl, gLc, aCons, aNil, eVar, eC, pSome, pNone, tgName, tgCons, tgNil, L2.start, vInt, vStr, vRef, vBl, Hf.l1, Hf.l2, Option.go, Res.or, List.length_cons, List.length_nil, List.getElem?_cons_zero, List.getElem?_cons_succ, List.set_cons_zero, List.set_cons_succ, List.map_cons, List.map_nil, List.cons_append, List.nil_append, List.replicate, Nat.reduceSub, Nat.reduceAdd, Nat.zero_add, Option.some.injEq, true_and, and_true, if_true, eq_self, Option.some.injEq, Res.bind]; exact oAdd_line (by omega)) ?_
          have e7 : newL [.str sort, .str (tx w)] S6 = .ok (.ref S6.n) (S6.push (.lst [.str sort, .str (tx w)])) := newL_eq (small 2)
          show RunS (Res.sb _ _ _) _ _
          rw [runS_sb]
          simp only [gLst, aCons, aNil, eVar, List.set_cons_zero, List.set_cons_succ, List.getElem?_cons_zero, List.getElem?_cons_succ, Res.bind, e7, run_ok, runS_nx]
          refine ⟨line' ++ w, ts ++ [(line'.length + 1, sort, w)], _, some (sort, w), _, _, _, rfl, ⟨hfin.trans .push, ⟨_, a4.push, y3'.fr (Fr.push (M := fun _ => False)) fun _ _ => id⟩, ?_, y5.app hgood.asc, ?_, ⟨S6.n, rfl, by omega, At.new, hgood⟩, y8, y9⟩, ?_, ?_, (hp6.fr (Fr.push (M := fun _ => False)) id).mono (by omega), ?_⟩
          · rw [List.length_append, List.length_cons, List.length_nil]; omega
          · intro t ht
            rcases List.mem_append.mp ht with h | h
            · exact y6 t h
            · rw [List.mem_singleton.mp h]
              exact ⟨hgood.sort, hgood.asc⟩
          · rw [List.length_append, List.length_cons, List.length_nil]; omega
          · intro rest ts' ha hL
            rw [List.append_assoc, List.append_assoc]
            exact hlx rest _ (.tok (hgood.ok ha) (by rw [List.length_append] at hL; exact hL))
          · rw [List.length_append]; omega
      · have x55 : decide ((line.length : Int) < 55) = false := decide_eq_false (by omega)
        refine midIfF (S1 := S3) (by simp only [runS_seq, runS_sb, runS_nx, runS_rt, run_bind, run_ok, run_body, run_call, run_noEx, mSet, mIf, mRet, mExpr, mNext, mAsg, mAug, mFor, gBin, gTest, gAnd, gOr, gNot, gAndV, gOrV, gNotV, gIfE, gCb, gMt, gLst, gTup, gSl, gLc, aCons, aNil, eVar, eC, pSome, pNone, tgName, tgCons, tgNil, L2.start, vInt, vStr, vRef, vBl, Hf.l1, Hf.l2, Option.go, Res.or, List.length_cons, List.length_nil, List.getElem?_cons_zero, List.getElem?_cons_succ, List.set_cons_zero, List.set_cons_succ, List.map_cons, List.map_nil, List.cons_append, List.nil_append, List.replicate, Nat.reduceSub, Nat.reduceAdd, Nat.zero_add, Option.some.injEq, true_and, and_true, if_true, eq_self, Option.some.injEq, bLen_tx hL1000, oLt_int, x55, Res.bind]) ?_
        exact ⟨line, ts, lv, last, _, _, _, rfl, hst3, by omega, hc, hp3.mono (by omega), hll⟩
    · rintro σ' S' ⟨line, ts, lv, last, e6, e7, e8, rfl, hst, htl, hc, hpu, hll⟩
      exact ⟨wk_rng0 (Nat.lt_irrefl _), line, ts, lv, last, e6, e7, e8, rfl, hst, hc, hpu.mono (by omega), hll⟩
  case rest =>
    rintro σ' S' ⟨line, ts, lv, last, e6, e7, e8, rfl, hst, hc, hpu, hll⟩
    have e2 : Run (gBin oAdd (eVar 3) (gBin oMul (eC (.str " ")) (gCall 2 f_law_take (aCons (eVar 0) (aCons (eC (.int 3)) aNil)))) [some (.ref p), some (.int num), some (.int steps), some (.str (tx line)), some (.ref f), some lv, e6, e7, e8] S')
        fun v S2 => ∃ n, v = .str (tx (line ++ List.replicate n 32)) ∧ n ≤ 2 ∧ RowSt S p num steps f line ts lv last S2 ∧ Pu S2 p (k + 92) := by
      simp only [runS_seq, runS_sb, runS_nx, runS_rt, run_bind, run_ok, run_body, run_call, run_noEx, mSet, mIf, mRet, mExpr, mNext, mAsg, mAug, mFor, gBin, gTest, gAnd, gOr, gNot, gAndV, gOrV, gNotV, gIfE, gCb, gMt, gLst, gTup, gSl, gLc, aCons, aNil, eVar, eC, pSome, pNone, tgName, tgCons, tgNil, L2.start, vInt, vStr, vRef, vBl, Hf.l1, Hf.l2, Option.go, Res.or, List.length_cons, List.length_nil, List.getElem?_cons_zero, List.getElem?_cons_succ, List.set_cons_zero, List.set_cons_succ, List.map_cons, List.map_nil, List.cons_append, List.nil_append, List.replicate, Nat.reduceSub, Nat.reduceAdd, Nat.zero_add, Option.some.injEq, true_and, and_true, if_true, eq_self, Option.some.injEq]
      refine (law_take_ok hpu (by omega) (by decide) (by decide)).imp fun v S2 z => ?_
      obtain ⟨g, rfl, g1, g2, hf, h, hn⟩ := z
      rw [oMul_blank g1 (by omega), run_ok, oAdd_line (by rw [List.length_replicate]; omega), run_ok]
      exact ⟨g.toNat, rfl, by omega, hst.fr hf, h.mono (by omega)⟩
    refine seqSet (e2.imp fun v S2 z => ?_)
    obtain ⟨n, rfl, hn2, hst2, hp2⟩ := z
    simp only [List.set_cons_zero, List.set_cons_succ]
    refine seqMid (fun σ' S3 => ∃ line', σ' = [some (.ref p), some (.int num), some (.int steps), some (.str (tx line')), some (.ref f), some lv, e6, e7, e8] ∧ RowSt S p num steps f line ts lv last S3 ∧ Pu S3 p (k + 94) ∧ Lx line' 0 ts ∧ line'.length ≤ 110 ∧ asc line') ?comment ?done
    case comment =>
      refine midIf ?_
      have e3 : Run (gTest (gBin oEq (gCall 2 f_law_take (aCons (eVar 0) (aCons (eC (.int 4)) aNil))) (eC (.int 0))) [some (.ref p), some (.int num), some (.int steps), some (.str (tx (line ++ List.replicate n 32))), some (.ref f), some lv, e6, e7, e8] S2)
          fun b S3 => RowSt S p num steps f line ts lv last S3 ∧ Pu S3 p (k + 93) := by
        simp only [runS_seq, runS_sb, runS_nx, runS_rt, run_bind, run_ok, run_body, run_call, run_noEx, mSet, mIf, mRet, mExpr, mNext, mAsg, mAug, mFor, gBin, gTest, gAnd, gOr, gNot, gAndV, gOrV, gNotV, gIfE, gCb, gMt, gLst, gTup, gSl, gLc, aCons, aNil, eVar, eC, pSome, pNone, tgName, tgCons, tgNil, L2.start, vInt, vStr, vRef, vBl, Hf.l1, Hf.l2, Option.go, Res.or, List.length_cons, List.length_nil, List.getElem?_cons_zero, List.getElem?_cons_succ, List.set_cons_zero, List.set_cons_succ, List.map_cons, List.map_nil, List.cons_append, List.nil_append, List.replicate, Nat.reduceSub, Nat.reduceAdd, Nat.zero_add, Option.some.injEq, true_and, and_true, if_true, eq_self, Option.some.injEq]
        refine (law_take_ok hp2 (by omega) (by decide) (by decide)).imp fun v S3 z => ?_
        obtain ⟨g, rfl, g1, g2, hf, h, hn⟩ := z
        simp only [oEq_int, run_ok]
        exact ⟨hst2.fr hf, h.mono (by omega)⟩
      refine e3.imp fun b S3 z => ?_
      obtain ⟨hst3, hp3⟩ := z
      obtain ⟨y1, y2, y4, y5, y6, y7, y8, y9⟩ := id hst3
      cases b with
      | false =>
        refine ⟨_, rfl, hst3, hp3.mono (by omega), ?_, by rw [List.length_append, List.length_replicate]; omega, y5.app (asc_rep _)⟩
        have z := hc (List.replicate n 32) [] (by rw [← List.append_nil (List.replicate n 32)]; exact aftL_blanks n aftL_nil) (by rw [← List.append_nil (List.replicate n 32)]; exact lx_blanks n _ .fin)
        rw [List.append_nil] at z
        exact z
      | true =>
        have ecm : ((" -- " : Str)) = tx [32, 45, 45, 32] := by decide +kernel
        simp only [runS_seq, runS_sb, runS_nx, runS_rt, run_bind, run_ok, run_body, run_call, run_noEx, mSet, mIf, mRet, mExpr, mNext, mAsg, mAug, mFor, gBin, gTest, gAnd, gOr, gNot, gAndV, gOrV, gNotV, gIfE, gCb, gMt, gLst, gTup, gSl, gLc, aCons, aNil, eVar, eC, pSome, pNone, tgName, tgCons, tgNil, L2.start, vInt, vStr, vRef, vBl, Hf.l1, Hf.l2, Option.go, Res.or, List.length_cons, List.length_nil, List.getElem?_cons_zero, List.getElem?_cons_succ, List.set_cons_zero, List.set_cons_succ, List.map_cons, List.map_nil, List.cons_append, List.nil_append, List.replicate, Nat.reduceSub, Nat.reduceAdd, Nat.zero_add, Option.some.injEq, true_and, and_true, if_true, eq_self, Option.some.injEq, ecm]
        rw [oAdd_line (by rw [List.length_append, List.length_replicate]; exact Nat.le_trans (show _ ≤ 87 + 2 + 4 by simp only [List.length_cons, List.length_nil]; omega) (by decide)), run_ok]
        simp only [run_newL, List.length_cons, List.length_nil]
        refine ⟨small _, ?_⟩
        rw [eTails]
        refine (take_pick hp3 (by omega) (by decide) (by decide) rfl).imp fun v S4 z => ?_
        obtain ⟨g, w, rfl, hw, e, hf4, h4, hn4⟩ := z
        have hwl : ∀ w ∈ commentTails, w.length ≤ 5 ∧ ∀ c ∈ w, c < 128 := by decide +kernel
        obtain ⟨hw5, hwa⟩ := hwl w hw
        rw [e, run_ok, oAdd_line (by simp only [List.length_append, List.length_replicate, List.length_cons, List.length_nil]; omega), run_ok]
        refine ⟨line ++ List.replicate n 32 ++ [32, 45, 45, 32] ++ w, rfl, hst3.fr hf4, h4.mono (by omega), ?_, by simp only [List.length_append, List.length_replicate, List.length_cons, List.length_nil]; omega,
          ((y5.app (asc_rep _)).app (show ∀ c ∈ [32, 45, 45, 32], c < 128 by decide)).app hwa⟩
        have z := hc (List.replicate n 32 ++ (32 :: 45 :: 45 :: 32 :: w)) [] (aftL_blanks n aftL_blank) (lx_blanks n _ (.blank .rem))
        rw [List.append_nil] at z
        simp only [List.append_assoc, List.cons_append, List.nil_append]
        exact z
    case done =>
      rintro σ3 S3 ⟨line', rfl, ⟨y1, ⟨xs, y2, y3⟩, y4, y5, y6, y7, y8, y9⟩, hp3, hL, hl, ha⟩
      show RunS (Res.sb _ _ _) _ _
      rw [runS_sb]
      simp only [runS_seq, runS_sb, runS_nx, runS_rt, run_bind, run_ok, run_body, run_call, run_noEx, mSet, mIf, mRet, mExpr, mNext, mAsg, mAug, mFor, gBin, gTest, gAnd, gOr, gNot, gAndV, gOrV, gNotV, gIfE, gCb, gMt, gLst, gTup, gSl, gLc, aCons, aNil, eVar, eC, pSome, pNone, tgName, tgCons, tgNil, L2.start, vInt, vStr, vRef, vBl, Hf.l1, Hf.l2, Option.go, Res.or, List.length_cons, List.length_nil, List.getElem?_cons_zero, List.getElem?_cons_succ, List.set_cons_zero, List.set_cons_succ, List.map_cons, List.map_nil, List.cons_append, List.nil_append, List.replicate, Nat.reduceSub, Nat.reduceAdd, Nat.zero_add, Option.some.injEq, true_and, and_true, if_true, eq_self, Option.some.injEq, run_newL]
      exact ⟨small _, S3.n, f, line', ts, xs, rfl, At.new, y1.le, y8, y2.push, (y3.lo (by omega)).fr (Fr.push (M := fun _ => False)) fun _ _ => id, y4, y6, hL, hl, ha, y1.trans .push, (hp3.fr (Fr.push (M := fun _ => False)) id).mono (by omega)⟩

/-! ### law_rows -/
def RowsOK (rows : List (List Nat)) (tss : List (List Tok)) : Prop := (∀ (i : Nat) (row : List Nat) (ts : List Tok), rows[i]? = some row → tss[i]? = some ts → row.length ≤ 1000 ∧ Lx row 0 ts) ∧ (∀ row ∈ rows, asc row) ∧ ∀ ts ∈ tss, TsOK ts
theorem RowsOK.snoc {rows : List (List Nat)} {tss : List (List Tok)} {row : List Nat} {ts : List Tok} (h : RowsOK rows tss) (hl : tss.length = rows.length) (h1 : row.length ≤ 1000) (h2 : Lx row 0 ts) (h3 : asc row) (h4 : TsOK ts) : RowsOK (rows ++ [row]) (tss ++ [ts]) := by
  refine ⟨fun i r t hr ht => ?_, fun r hr => ?_, fun t ht => ?_⟩
  · by_cases e : i < rows.length
    · rw [List.getElem?_append_left e] at hr
      rw [List.getElem?_append_left (by omega)] at ht
      exact h.1 i r t hr ht
    · rw [List.getElem?_append_right (by omega)] at hr
      rw [List.getElem?_append_right (by omega), hl] at ht
      cases e2 : i - rows.length with
      | zero =>
        rw [e2] at hr ht
        cases hr
        cases ht
        exact ⟨h1, h2⟩
      | succ j =>
        rw [e2] at hr
        cases hr
  · rcases List.mem_append.mp hr with q | q
    · exact h.2.1 r q
    · rw [List.mem_singleton.mp q]; exact h3
  · rcases List.mem_append.mp ht with q | q
    · exact h.2.2 t q
    · rw [List.mem_singleton.mp q]; exact h4
theorem law_rows_ok {p : Nat} {k steps : Int} {S : Sto} (h : Pu S p k) (hk : k ≤ 4000) (h1 : 0 ≤ steps) (h2 : steps ≤ 7) :
    Run (f_law_rows [.ref p, .int steps] S) fun v S' => ∃ (q l fr : Nat) (rows : List (List Nat)) (tss : List (List Tok)) (xs : List V), v = .ref q ∧ At S' q (.lst [.ref l, .ref fr]) ∧ S.n ≤ q ∧ S.n ≤ l ∧ S.n ≤ fr ∧ At S' l (.lst (rows.map fun x => V.str (tx x))) ∧ At S' fr (.lst xs)
      ∧ LTs S' (S.n + 1) xs (flat 1 tss) ∧ rows.length ≤ 10 ∧ tss.length = rows.length ∧ RowsOK rows tss ∧ xs.length ≤ 1000 ∧ Fr1 p S S' := by
  unfold f_law_rows
  rw [run_body]
  unfold m_law_rows
  generalize hF : FUEL = F
  simp only [L2.start, List.map_cons, List.map_nil, List.length_cons, List.length_nil, Nat.reduceAdd, Nat.reduceSub, List.replicate, List.cons_append, List.nil_append]
  have hlt := h.lt
  refine seqSetOk (x := .ref S.n) (S1 := S.push (.lst [])) rfl ?_
  refine seqSetOk (x := .ref (S.n + 1)) (S1 := (S.push (.lst [])).push (.lst [])) rfl ?_
  simp only [List.set_cons_zero, List.set_cons_succ]
  have hp0 : Pu ((S.push (.lst [])).push (.lst [])) p k := h.fr ((Fr.push (M := fun _ => False)).trans .push) id
  have hf0 : Fr1 p S ((S.push (.lst [])).push (.lst [])) := Fr.push.trans .push
  have a0 : At ((S.push (.lst [])).push (.lst [])) S.n (.lst (([] : List (List Nat)).map fun x => V.str (tx x))) := At.new.push
  have a1 : At ((S.push (.lst [])).push (.lst [])) (S.n + 1) (.lst []) := At.new
  generalize (S.push (.lst [])).push (.lst []) = S1 at *
  refine seqMid (fun σ' S' => ∃ (rows : List (List Nat)) (tss : List (List Tok)) (xs : List V) (fr : Nat) (e4 e5 e6 : Option V), σ' = [some (.ref p), some (.int steps), some (.ref S.n), some (.ref fr), e4, e5, e6] ∧ Fr1 p S S' ∧ At S' S.n (.lst (rows.map fun x => V.str (tx x))) ∧ At S' fr (.lst xs) ∧ S.n ≤ fr ∧ LTs S' (S.n + 1) xs (flat 1 tss)
    ∧ rows.length ≤ 10 ∧ tss.length = rows.length ∧ RowsOK rows tss ∧ xs.length ≤ 1000) ?loop ?rest
  case loop =>
    refine (show RunS (Res.sb (wRng2 (aCons (eC (V.int 1)) (aCons (gBin oAdd (eVar 1) (eC (V.int 1))) aNil)) _ _) _ _) _ _ from ?_)
    rw [runS_sb]
    simp only [wRng2, aCons, aNil, eVar, eC, gBin, List.getElem?_cons_zero, List.getElem?_cons_succ, run_bind, run_ok, oAdd_int, Hf.l2, Option.go, vInt, rngOk_to (show -(2 ^ 62) ≤ steps + 1 by omega) (show steps + 1 < 2 ^ 62 by omega), rngOk_to (i := 1) (by decide) (by decide), and_self, if_true]
    refine for_run steps.toNat (J := fun i σ' S' => ∃ (rows : List (List Nat)) (tss : List (List Tok)) (xs : List V) (fr : Nat) (e4 e5 e6 : Option V), σ' = [some (.ref p), some (.int steps), some (.ref S.n), some (.ref fr), e4, e5, e6] ∧ Fr1 p S S' ∧ Pu S' p (k + 101 * i) ∧ At S' S.n (.lst (rows.map fun x => V.str (tx x))) ∧ At S' fr (.lst xs) ∧ S.n + 1 ≤ fr
      ∧ LTs S' (S.n + 1) xs (flat 1 tss) ∧ rows.length = i ∧ tss.length = i ∧ RowsOK rows tss ∧ xs.length ≤ 100 * i) ?_ ?_ F 0 _ _
      ⟨[], [], [], S.n + 1, none, none, none, rfl, hf0, hp0.mono (by omega), a0, a1, Nat.le_refl _, trivial, rfl, rfl, ⟨fun i r t hr => (nomatch hr), fun _ h => (nomatch h), fun _ h => (nomatch h)⟩, Nat.le_refl _⟩ (Nat.zero_le _) (by rw [← hF]; unfold FUEL; omega)
    · rintro i σ' S' hi ⟨rows, tss, xs, fr, e4, e5, e6, rfl, hf, hp, ha, hfr, hle, hts, hrl, htl, hok, hxl⟩
      refine ⟨_, S', by rw [show (steps + 1 - 1).toNat = steps.toNat by omega]; exact wkn_rng hi, ?_⟩
      show RunS (mSeq _ _ _ _) _ _
      simp only [List.set_cons_zero, List.set_cons_succ]
      have er : Run (gCall 3 f_law_row (aCons (eVar 0) (aCons (eVar 4) (aCons (gCall 2 f_law_take (aCons (eVar 0) (aCons (eC (V.int 7)) aNil))) aNil))) [some (.ref p), some (.int steps), some (.ref S.n), some (.ref fr), some (.int (1 + (i : Nat))), e5, e6] S')
          fun v S2 => ∃ (q f : Nat) (line : List Nat) (ts : List Tok) (ys : List V), v = .ref q ∧ At S2 q (.lst [.str (tx line), .ref f]) ∧ S'.n ≤ q ∧ S'.n ≤ f ∧ At S2 f (.lst ys) ∧ LTs S2 S'.n ys (ts.map fun t => (1 + (i : Nat), t)) ∧ ts.length ≤ 100
            ∧ TsOK ts ∧ Lx line 0 ts ∧ line.length ≤ 110 ∧ asc line ∧ Fr1 p S' S2 ∧ Pu S2 p (k + 101 * i + 101) := by
        simp only [runS_seq, runS_sb, runS_nx, runS_rt, run_bind, run_ok, run_body, run_call, run_noEx, mSet, mIf, mRet, mExpr, mNext, mAsg, mAug, mFor, gBin, gTest, gAnd, gOr, gNot, gAndV, gOrV, gNotV, gIfE, gCb, gMt, gLst, gTup, gSl, gLc, aCons, aNil, eVar, eC, pSome, pNone, tgName, tgCons, tgNil, L2.start, vInt, vStr, vRef, vBl, Hf.l1, Hf.l2, Option.go, Res.or, List.length_cons, List.length_nil, List.getElem?_cons_zero, List.getElem?_cons_succ, List.set_cons_zero, List.set_cons_succ, List.map_cons, List.map_nil, List.cons_append, List.nil_append, List.replicate, Nat.reduceSub, Nat.reduceAdd, Nat.zero_add, Option.some.injEq, true_and, and_true, if_true, eq_self, Option.some.injEq]
        refine (law_take_ok hp (by omega) (by decide) (by decide)).imp fun v S2 z => ?_
        obtain ⟨g, rfl, g1, g2, hf2, hp2, hn2⟩ := z
        refine (law_row_ok (num := 1 + (i : Nat)) hp2 (by omega) g1 (by omega)).imp fun v S3 z => ?_
        obtain ⟨q, f, line, ts, ys, rfl, z1, z2, z3, z4, z5, z6, z7, z8, z9, z10, z11, z12⟩ := z
        rw [hn2] at z2 z3 z5
        exact ⟨q, f, line, ts, ys, rfl, z1, z2, z3, z4, z5, z6, z7, z8, z9, z10, hf2.trans z11, z12.mono (by omega)⟩
      refine seqAsg (er.imp fun v S2 z => ?_)
      obtain ⟨q, f, line, ts, ys, rfl, z1, z2, z3, z4, z5, z6, z7, z8, z9, z10, z11, z12⟩ := z
      rw [un2L z1, run_ok]
      simp only [List.set_cons_zero, List.set_cons_succ]
      have hlp : S.n ≠ p := by omega
      have ha2 := ha.fr z11 hlp
      have hfr2 := hfr.fr z11 (by omega)
      have hM1 : ∀ i, S.n + 1 ≤ i → ¬ (i = p) := fun i hi e => by omega
      have hM2 : ∀ i, S.n + 1 ≤ i → ¬ (i = S.n) := fun i hi e => by omega
      have hfrp : fr ≠ p := by omega
      have hts2 := hts.fr z11 hM1
      have hSn := ha.lt
      refine seqExprOk (x := .non) (S1 := S2.set S.n (.lst ((rows.map fun x => V.str (tx x)) ++ [.str (tx line)]))) (by
        simp only [runS_seq, runS_sb, runS_nx, runS_rt, run_bind, run_ok, run_body, run_call, run_noEx, mSet, mIf, mRet, mExpr, mNext, mAsg, mAug, mFor, gBin, gTest, gAnd, gOr, gNot, gAndV, gOrV, gNotV, gIfE, gCb, gMt, gLst, gTup, gSl, gLc, aCons, aNil, eVar, eC, pSome, pNone, tgName, tgCons, tgNil, L2.start, vInt, vStr, vRef, vBl, Hf.l1, Hf.l2, Option.go, Res.or, List.length_cons, List.length_nil, List.getElem?_cons_zero, List.getElem?_cons_succ, List.set_cons_zero, List.set_cons_succ, List.map_cons, List.map_nil, List.cons_append, List.nil_append, List.replicate, Nat.reduceSub, Nat.reduceAdd, Nat.zero_add, Option.some.injEq, true_and, and_true, if_true, eq_self, Option.some.injEq, Res.bind, isTy_lst ha2]
        exact mAppend_at ha2 (Nat.lt_of_le_of_lt (show _ ≤ 999 by rw [List.length_map]; omega) (small 1000))) ?_
      have hf3 : Fr (fun i => i = S.n) S2 (S2.set S.n (.lst ((rows.map fun x => V.str (tx x)) ++ [.str (tx line)]))) := .set (.inr rfl)
      have ha3 : At (S2.set S.n (.lst ((rows.map fun x => V.str (tx x)) ++ [.str (tx line)]))) S.n (.lst ((rows ++ [line]).map fun x => V.str (tx x))) := by
        rw [List.map_append]
        exact ha2.seti
      have hfr3 := hfr2.fr hf3 (show ¬ fr = S.n by omega)
      have hys3 := z4.fr hf3 (show ¬ f = S.n by omega)
      have hp3 := z12.fr hf3 (show ¬ p = S.n by omega)
      have hts3 := hts2.fr hf3 hM2
      have htn3 := (z5.lo (show S.n + 1 ≤ S'.n by omega)).fr hf3 hM2
      have hff3 : Fr1 p S (S2.set S.n (.lst ((rows.map fun x => V.str (tx x)) ++ [.str (tx line)]))) := (hf.trans z11).setNew (.inl (Nat.le_refl _))
      have hnn : (S2.set S.n (.lst ((rows.map fun x => V.str (tx x)) ++ [.str (tx line)]))).n = S2.n := rfl
      generalize S2.set S.n (.lst ((rows.map fun x => V.str (tx x)) ++ [.str (tx line)])) = S3 at *
      have hyl : ys.length = ts.length := by rw [z5.length, List.length_map]
      have ecat : newL (xs ++ ys) S3 = .ok (.ref S3.n) (S3.push (.lst (xs ++ ys))) := newL_eq (Nat.le_trans (show _ ≤ 1000 by rw [List.length_append]; omega) (small _))
      show RunS (Res.sb _ _ _) _ _
      rw [runS_sb]
      simp only [runS_seq, runS_sb, runS_nx, runS_rt, run_bind, run_ok, run_body, run_call, run_noEx, mSet, mIf, mRet, mExpr, mNext, mAsg, mAug, mFor, gBin, gTest, gAnd, gOr, gNot, gAndV, gOrV, gNotV, gIfE, gCb, gMt, gLst, gTup, gSl, gLc, aCons, aNil, eVar, eC, pSome, pNone, tgName, tgCons, tgNil, L2.start, vInt, vStr, vRef, vBl, Hf.l1, Hf.l2, Option.go, Res.or, List.length_cons, List.length_nil, List.getElem?_cons_zero, List.getElem?_cons_succ, List.set_cons_zero, List.set_cons_succ, List.map_cons, List.map_nil, List.cons_append, List.nil_append, List.replicate, Nat.reduceSub, Nat.reduceAdd, Nat.zero_add, Option.some.injEq, true_and, and_true, if_true, eq_self, Option.some.injEq, oCat_at hfr3 hys3, ecat]
      refine ⟨rows ++ [line], tss ++ [ts], xs ++ ys, S3.n, _, _, _, rfl, hff3.trans .push, (hp3.fr (Fr.push (M := fun _ => False)) id).mono (by omega), ha3.push, At.new, by have := z11.le; omega, ?_, by rw [List.length_append, hrl]; rfl, by rw [List.length_append, htl]; rfl,
        hok.snoc (by omega) (by omega) z8 z10 z7, by rw [List.length_append]; omega⟩
      rw [flat_snoc, htl]
      exact (hts3.app htn3).fr (Fr.push (M := fun _ => False)) fun _ _ => id
    · rintro σ' S' ⟨rows, tss, xs, fr, e4, e5, e6, rfl, hf, hp, ha, hfr, hle, hts, hrl, htl, hok, hxl⟩
      exact ⟨wk_rng0 (by omega), rows, tss, xs, fr, e4, e5, e6, rfl, hf, ha, hfr, by omega, hts, by omega, by omega, hok, by omega⟩
  case rest =>
    rintro σ' S' ⟨rows, tss, xs, fr, e4, e5, e6, rfl, hf, ha, hfr, hle, hts, hrl, htl, hok, hxl⟩
    show RunS (Res.sb _ _ _) _ _
    rw [runS_sb]
    simp only [runS_seq, runS_sb, runS_nx, runS_rt, run_bind, run_ok, run_body, run_call, run_noEx, mSet, mIf, mRet, mExpr, mNext, mAsg, mAug, mFor, gBin, gTest, gAnd, gOr, gNot, gAndV, gOrV, gNotV, gIfE, gCb, gMt, gLst, gTup, gSl, gLc, aCons, aNil, eVar, eC, pSome, pNone, tgName, tgCons, tgNil, L2.start, vInt, vStr, vRef, vBl, Hf.l1, Hf.l2, Option.go, Res.or, List.length_cons, List.length_nil, List.getElem?_cons_zero, List.getElem?_cons_succ, List.set_cons_zero, List.set_cons_succ, List.map_cons, List.map_nil, List.cons_append, List.nil_append, List.replicate, Nat.reduceSub, Nat.reduceAdd, Nat.zero_add, Option.some.injEq, true_and, and_true, if_true, eq_self, Option.some.injEq, run_newL]
    exact ⟨small _, S'.n, S.n, fr, rows, tss, xs, rfl, At.new, hf.le, Nat.le_refl _, hle, ha.push, hfr.push, hts.fr (Fr.push (M := fun _ => False)) fun _ _ => id, hrl, htl, hok, hxl, hf.trans .push⟩

/-! ### the law -/
theorem isi_tup {S : Sto} {a : Nat} {xs : List V} (h : At S a (.tup xs)) : bIsi [.ref a, .ty "tuple"] S = .ok (.bl true) S := by
  have e : tyN (.ref a) S = some "tuple" := by
    simp only [tyN, h.get]
  show Option.go (tyN (.ref a) S) _ = _
  rw [e]
  rfl
theorem isi_lst {S : Sto} {a : Nat} {xs : List V} (h : At S a (.lst xs)) : bIsi [.ref a, .ty "list"] S = .ok (.bl true) S := by
  have e : tyN (.ref a) S = some "list" := by
    simp only [tyN, h.get]
  show Option.go (tyN (.ref a) S) _ = _
  rw [e]
  rfl
theorem isi_int {S : Sto} {i : Int} : bIsi [.int i, .ty "bool"] S = .ok (.bl false) S := rfl
theorem isi_str {S : Sto} {x : Str} : bIsi [.str x, .ty "str"] S = .ok (.bl true) S := rfl
def tokD (t : FTok) : PyData := .tuple [.tuple [.int t.1, .int (t.2.1 : Nat)], .str t.2.2.1, .str (tx t.2.2.2)]
theorem FTs.dat {S : Sto} : ∀ {vs : List V} {ts : List FTok}, FTs S vs ts → mapO (dat 63 S) vs = some (ts.map tokD)
  | [], [], _ => rfl
  | _ :: _, _ :: _, ⟨⟨x, y, e, h1, h2⟩, h⟩ => by
    subst e
    exact mapO_cons (dat_tup (n := 62) h1 (mapO_cons (dat_tup (n := 61) h2 (mapO_cons dat_int (mapO_cons dat_int mapO_nil))) (mapO_cons dat_str (mapO_cons dat_str mapO_nil)))) (FTs.dat h)
theorem tokD_sh {t : FTok} (h : Sh 0 (.str t.2.2.1)) (h2 : asc t.2.2.2) : Sh 2 (tokD t) := sh_tuple (by
  intro d hd
  simp only [List.mem_cons, List.not_mem_nil, or_false] at hd
  rcases hd with rfl | rfl | rfl
  · exact sh_tuple (by
      intro d hd
      simp only [List.mem_cons, List.not_mem_nil, or_false] at hd
      rcases hd with rfl | rfl <;> exact sh_int)
  · exact h.mono (by decide)
  · exact (sh_tx h2).mono (by decide))
theorem flat_ok : ∀ {tss : List (List Tok)} {n : Int}, (∀ ts ∈ tss, TsOK ts) → ∀ t ∈ flat n tss, Sh 2 (tokD t)
  | [], n, _, t, ht => by cases ht
  | ts :: r, n, h, t, ht => by
    rw [flat] at ht
    rcases List.mem_append.mp ht with q | q
    · obtain ⟨u, hu, rfl⟩ := List.mem_map.mp q
      have z := h ts (List.mem_cons_self ..) u hu
      exact tokD_sh z.1 z.2
    · exact flat_ok (fun ts hts => h ts (List.mem_cons_of_mem _ hts)) t q
theorem rows_dat {S : Sto} (rows : List (List Nat)) : mapO (dat 63 S) (rows.map fun x => V.str (tx x)) = some (rows.map fun x => PyData.str (tx x)) := by
  induction rows with
  | nil => rfl
  | cons r rows ih => exact mapO_cons dat_str ih
theorem law_at_ok {b : Bool} {ns : List Int} {S : Sto} (h : At S 0 (.frz b (ns.map V.int))) : Run (f_law_at [.ref 0, .int 2] S) fun v S' => S' = S ∧ ∃ c, v = .int c := by
  have hq : seqAt S 0 = some (ns.map V.int) := by unfold seqAt; rw [h.get]
  have hl : lstAt S 0 = some (ns.map V.int) := by unfold lstAt; rw [h.get]
  unfold f_law_at
  rw [run_body]
  unfold m_law_at
  simp only [L2.start, List.map_cons, List.map_nil, List.length_cons, List.length_nil, Nat.reduceAdd, Nat.reduceSub, List.replicate, List.cons_append, List.nil_append]
  by_cases c : 2 < ns.length
  · have d : decide ((2 : Int) < ((ns.map V.int).length : Int)) = true := decide_eq_true (by rw [List.length_map]; omega)
    refine seqRet (by simp only [runS_seq, runS_sb, runS_nx, runS_rt, run_bind, run_ok, run_body, run_call, run_noEx, mSet, mIf, mRet, mExpr, mNext, mAsg, mAug, mFor, gBin, gTest, gAnd, gOr, gNot, gAndV, gOrV, gNotV, gIfE, gCb, gMt, gLst, gTup, gSl, gLc, aCons, aNil, eVar, eC, pSome, pNone, tgName, tgCons, tgNil, L2.start, vInt, vStr, vRef, vBl, Hf.l1, Hf.l2, Option.go, Res.or, List.length_cons, List.length_nil, List.getElem?_cons_zero, List.getElem?_cons_succ, List.set_cons_zero, List.set_cons_succ, List.map_cons, List.map_nil, List.cons_append, List.nil_append, List.replicate, Nat.reduceSub, Nat.reduceAdd, Nat.zero_add, Option.some.injEq, true_and, and_true, if_true, eq_self, Option.some.injEq, Res.bind, bLen_seq hq, oLt_int, d]) ?_
    obtain ⟨x, e, hx⟩ := atI_in (xs := ns.map V.int) (i := 2) (by decide) (by rw [List.length_map]; omega)
    have e2 : iSeq (.ref 0) (.int 2) S = .ok x S := by
      show (Option.go (lstAt S 0) _).or _ = _
      rw [hl]
      show (Option.go (L2.atI _ 2) _).or _ = _
      rw [e]
      rfl
    simp only [runS_seq, runS_sb, runS_nx, runS_rt, run_bind, run_ok, run_body, run_call, run_noEx, mSet, mIf, mRet, mExpr, mNext, mAsg, mAug, mFor, gBin, gTest, gAnd, gOr, gNot, gAndV, gOrV, gNotV, gIfE, gCb, gMt, gLst, gTup, gSl, gLc, aCons, aNil, eVar, eC, pSome, pNone, tgName, tgCons, tgNil, L2.start, vInt, vStr, vRef, vBl, Hf.l1, Hf.l2, Option.go, Res.or, List.length_cons, List.length_nil, List.getElem?_cons_zero, List.getElem?_cons_succ, List.set_cons_zero, List.set_cons_succ, List.map_cons, List.map_nil, List.cons_append, List.nil_append, List.replicate, Nat.reduceSub, Nat.reduceAdd, Nat.zero_add, Option.some.injEq, true_and, and_true, if_true, eq_self, Option.some.injEq, e2]
    obtain ⟨c, _, rfl⟩ := List.mem_map.mp hx
    exact ⟨c, rfl⟩
  · have d : decide ((2 : Int) < ((ns.map V.int).length : Int)) = false := decide_eq_false (by rw [List.length_map]; omega)
    refine seqSkip (by simp only [runS_seq, runS_sb, runS_nx, runS_rt, run_bind, run_ok, run_body, run_call, run_noEx, mSet, mIf, mRet, mExpr, mNext, mAsg, mAug, mFor, gBin, gTest, gAnd, gOr, gNot, gAndV, gOrV, gNotV, gIfE, gCb, gMt, gLst, gTup, gSl, gLc, aCons, aNil, eVar, eC, pSome, pNone, tgName, tgCons, tgNil, L2.start, vInt, vStr, vRef, vBl, Hf.l1, Hf.l2, Option.go, Res.or, List.length_cons, List.length_nil, List.getElem?_cons_zero, List.getElem?_cons_succ, List.set_cons_zero, List.set_cons_succ, List.map_cons, List.map_nil, List.cons_append, List.nil_append, List.replicate, Nat.reduceSub, Nat.reduceAdd, Nat.zero_add, Option.some.injEq, true_and, and_true, if_true, eq_self, Option.some.injEq, Res.bind, bLen_seq hq, oLt_int, d]) ?_
    simp only [runS_seq, runS_sb, runS_nx, runS_rt, run_bind, run_ok, run_body, run_call, run_noEx, mSet, mIf, mRet, mExpr, mNext, mAsg, mAug, mFor, gBin, gTest, gAnd, gOr, gNot, gAndV, gOrV, gNotV, gIfE, gCb, gMt, gLst, gTup, gSl, gLc, aCons, aNil, eVar, eC, pSome, pNone, tgName, tgCons, tgNil, L2.start, vInt, vStr, vRef, vBl, Hf.l1, Hf.l2, Option.go, Res.or, List.length_cons, List.length_nil, List.getElem?_cons_zero, List.getElem?_cons_succ, List.set_cons_zero, List.set_cons_succ, List.map_cons, List.map_nil, List.cons_append, List.nil_append, List.replicate, Nat.reduceSub, Nat.reduceAdd, Nat.zero_add, Option.some.injEq, true_and, and_true, if_true, eq_self, Option.some.injEq, mul_ok (i := 3) (j := 2) (by omega) (by omega) (by omega) (by omega), oAdd_int]
    exact ⟨_, rfl⟩
theorem fr1_new {S S1 S2 : Sto} {p : Nat} (h : Fr0 S S1) (hp : S.n ≤ p) (f : Fr1 p S1 S2) : Fr0 S S2 :=
  ⟨Nat.le_trans h.le f.le, fun i hi _ => (f.eq i (Nat.lt_of_lt_of_le hi h.le) (by omega)).trans (h.eq i hi id)⟩
/-- what is due, as tuples -/
theorem due_ok {F : Nat} {d : Nat} {xs : List V} {fts : List FTok} {lo : Nat} {S : Sto} {x0 x1 x2 x3 x4 x5 x6 x7 x8 x9 x10 : Option V} (hd : At S d (.lst xs)) (hx : LTs S lo xs fts) (hl : xs.length ≤ 1000) (hF : F = 100000)
    (h4 : x4 = some (.ref d)) :
    Run (gLc F (wSeq (eVar 4)) (tgUn 3 (fun vs σ S => noEx (tgCons (tgName 5) (fun vs σ S => noEx (tgCons (tgName 6) (fun vs σ S => noEx (tgCons (tgName 7) tgNil vs σ S)) vs σ S)) vs σ S))) tYesG (gTup (aCons (eVar 5) (aCons (eVar 6) (aCons (eVar 7) aNil)))) [5, 6, 7]
      [x0, x1, x2, x3, x4, x5, x6, x7, x8, x9, x10] S) fun v S' => ∃ (D : Nat) (ds : List V), v = .ref D ∧ S.n ≤ D ∧ Fr0 S S' ∧ At S' D (.lst ds) ∧ FTs S' ds fts := by
  subst h4
  simp only [gLc, wSeq, eVar, List.getElem?_cons_zero, List.getElem?_cons_succ, run_bind, run_ok, vRef, Option.go, hd.lstAt, L2.wipe, List.set_cons_zero, List.set_cons_succ]
  refine lc_runR xs.length (J := fun i S' => ∃ ds, Fr0 S S' ∧ At S' S.n (.lst ds) ∧ FTs S' ds (fts.take i) ∧ ds.length = i) ?_ ?_ F 0 _ ⟨[], .push, .new, trivial, rfl⟩ (Nat.zero_le _) (by omega)
  · rintro i S' hi ⟨ds, hf, ha, ht, hdl⟩
    have hgen : ∀ {vs : List V} {ts : List FTok}, LTs S lo vs ts → ∀ i, i < vs.length → ∃ v t, vs[i]? = some v ∧ ts[i]? = some t ∧ LTokAt S lo v t := by
      intro vs
      induction vs with
      | nil => intro ts _ i hi; exact absurd hi (Nat.not_lt_zero _)
      | cons v vs ih =>
        intro ts h i hi
        cases ts with
        | nil => exact h.elim
        | cons t ts =>
          cases i with
          | zero => exact ⟨v, t, rfl, rfl, h.1⟩
          | succ i => exact ih h.2 i (by rw [List.length_cons] at hi; omega)
    obtain ⟨v, t, hv, ht2, x, y, rfl, _, _, hx1, hy1⟩ := hgen hx i hi
    refine ⟨.ref x, S', wkn_seq (hd.fr0 hf).lstAt hv, ?_⟩
    rw [un3L (hx1.fr0 hf), run_ok]
    simp only [tYesG, run_ok, List.set_cons_zero, List.set_cons_succ, gTup, aCons, aNil, eVar, List.getElem?_cons_zero, List.getElem?_cons_succ, run_bind, run_newT, true_and]
    refine ⟨small 3, ds, ha.push, Nat.lt_of_le_of_lt (show ds.length ≤ 999 by omega) (small 1000), ds ++ [.ref S'.n], (hf.trans .push).setNew (.inl (Nat.le_refl _)), ha.push.seti, ?_, by rw [List.length_append, hdl]; rfl⟩
    have e : fts.take (i + 1) = fts.take i ++ [t] := by rw [List.take_add_one, ht2]; rfl
    rw [e]
    refine FTs.stay (stay_set ha.push) ((ht.stay stay_push).app ⟨⟨S'.n, y, rfl, At.new, (hy1.fr0 hf).push⟩, trivial⟩)
  · rintro S' ⟨ds, hf, ha, ht, hdl⟩
    refine ⟨wk_seq0 (hd.fr0 hf).lstAt (Nat.le_refl _), S.n, ds, rfl, Nat.le_refl _, hf, ha, ?_⟩
    have : fts.length = xs.length := hx.length.symm
    rw [List.take_of_length_le (by omega)] at ht
    exact ht

theorem fts_get {S : Sto} : ∀ {vs : List V} {ts : List FTok}, FTs S vs ts → ∀ (i : Nat) (v : V), vs[i]? = some v → ∃ (n : Int) (t : Tok), TokAt S n v t
  | [], [], _, i, v, h => by cases h
  | _ :: _, t :: _, h, 0, v, e => by
    cases e
    exact ⟨_, _, h.1⟩
  | _ :: _, _ :: _, h, i + 1, v, e => fts_get h.2 i v e
theorem law_true (b : Bool) (ns : List Int) (h : ns.length ≤ 63) : Run (f_law [.ref 0] (mkS (os0 b ns))) (fun v _ => v = .bl true) := by
  have k0 : At (mkS (os0 b ns)) 0 (.frz b (ns.map V.int)) := ⟨by rw [mkS_get]; rfl, by rw [mkS_n]; exact (by decide : 0 < 3)⟩
  have ks : Ks (mkS (os0 b ns)) := ⟨⟨by rw [mkS_get]; rfl, by rw [mkS_n]; exact (by decide : 1 < 3)⟩, ⟨by rw [mkS_get]; rfl, by rw [mkS_n]; exact (by decide : 2 < 3)⟩⟩
  have k3 : (mkS (os0 b ns)).n = 3 := mkS_n _
  generalize mkS (os0 b ns) = S at *
  unfold f_law
  rw [run_body]
  unfold m_law
  generalize hF : FUEL = F
  have hF2 : F = 100000 := hF.symm
  simp only [L2.start, List.map_cons, List.map_nil, List.length_cons, List.length_nil, Nat.reduceAdd, Nat.reduceSub, List.replicate, List.cons_append, List.nil_append]
  refine seqMid (fun _ _ => True) ?loop fun σ' S' _ => rfl
  -- the cells
  have hcells : Run (wSeq (gBin oAdd (gSl cSeq (eVar 0) pNone (pSome (eC (.int 5)))) (gLst (aCons (gCall 2 f_law_at (aCons (eVar 0) (aCons (eC (.int 2)) aNil))) aNil))) [some (.ref 0), none, none, none, none, none, none, none, none, none, none] S)
      fun w S' => ∃ (a : Nat) (cs : List Int), w = .seq a ∧ At S' a (.lst (cs.map V.int)) ∧ cs.length ≤ 10 ∧ Fr0 S S' := by
    have e5 : L2.cutV (ns.map V.int) none (some 5) = (ns.take 5).map V.int := by
      unfold L2.cutV
      rw [show (some (5 : Int)) = some ((5 : Nat) : Int) from rfl, HT.sIx_nat, HT.sIx_none, List.drop_zero, Nat.sub_zero, List.map_take, List.length_map]
      by_cases c : 5 ≤ ns.length
      · rw [Nat.min_eq_left c]
      · rw [Nat.min_eq_right (by omega), List.take_of_length_le (by rw [List.length_map]; exact Nat.le_refl _), List.take_of_length_le (by rw [List.length_map]; omega)]
    have el : ((ns.take 5).map V.int).length ≤ 5 := by rw [List.length_map, List.length_take]; omega
    have ecut : cSeq (.ref 0) none (some 5) S = .ok (.ref S.n) (S.push (.lst ((ns.take 5).map V.int))) := by
      have hl : lstAt S 0 = some (ns.map V.int) := by unfold lstAt; rw [k0.get]
      show (Option.go (lstAt S 0) _).or _ = _
      rw [hl]
      show (newL (L2.cutV (ns.map V.int) none (some 5)) S).or _ = _
      rw [e5, newL_eq (Nat.le_trans el (small 5))]
      rfl
    simp only [runS_seq, runS_sb, runS_nx, runS_rt, run_bind, run_ok, run_body, run_call, run_noEx, mSet, mIf, mRet, mExpr, mNext, mAsg, mAug, mFor, gBin, gTest, gAnd, gOr, gNot, gAndV, gOrV, gNotV, gIfE, gCb, gMt, gLst, gTup, gSl, gLc, aCons, aNil, eVar, eC, pSome, pNone, tgName, tgCons, tgNil, L2.start, vInt, vStr, vRef, vBl, Hf.l1, Hf.l2, Option.go, Res.or, List.length_cons, List.length_nil, List.getElem?_cons_zero, List.getElem?_cons_succ, List.set_cons_zero, List.set_cons_succ, List.map_cons, List.map_nil, List.cons_append, List.nil_append, List.replicate, Nat.reduceSub, Nat.reduceAdd, Nat.zero_add, Option.some.injEq, true_and, and_true, if_true, eq_self, Option.some.injEq, wSeq, ecut]
    refine (law_at_ok (k0.push (o' := .lst ((ns.take 5).map V.int)))).imp fun v S' z => ?_
    obtain ⟨rfl, c, rfl⟩ := z
    have e1 : newL [.int c] (S.push (.lst ((ns.take 5).map V.int))) = .ok (.ref (S.n + 1)) ((S.push (.lst ((ns.take 5).map V.int))).push (.lst [.int c])) := newL_eq (small 1)
    have b1 : At ((S.push (.lst ((ns.take 5).map V.int))).push (.lst [.int c])) S.n (.lst ((ns.take 5).map V.int)) := At.new.push
    have b2 : At ((S.push (.lst ((ns.take 5).map V.int))).push (.lst [.int c])) (S.n + 1) (.lst [.int c]) := At.new
    have bf : Fr0 S ((S.push (.lst ((ns.take 5).map V.int))).push (.lst [.int c])) := Fr.push.trans .push
    simp only [runS_seq, runS_sb, runS_nx, runS_rt, run_bind, run_ok, run_body, run_call, run_noEx, mSet, mIf, mRet, mExpr, mNext, mAsg, mAug, mFor, gBin, gTest, gAnd, gOr, gNot, gAndV, gOrV, gNotV, gIfE, gCb, gMt, gLst, gTup, gSl, gLc, aCons, aNil, eVar, eC, pSome, pNone, tgName, tgCons, tgNil, L2.start, vInt, vStr, vRef, vBl, Hf.l1, Hf.l2, Option.go, Res.or, List.length_cons, List.length_nil, List.getElem?_cons_zero, List.getElem?_cons_succ, List.set_cons_zero, List.set_cons_succ, List.map_cons, List.map_nil, List.cons_append, List.nil_append, List.replicate, Nat.reduceSub, Nat.reduceAdd, Nat.zero_add, Option.some.injEq, true_and, and_true, if_true, eq_self, Option.some.injEq, e1]
    generalize (S.push (.lst ((ns.take 5).map V.int))).push (.lst [.int c]) = S2 at *
    have e2 : newL ((ns.take 5).map V.int ++ [.int c]) S2 = .ok (.ref S2.n) (S2.push (.lst ((ns.take 5 ++ [c]).map V.int))) := by
      rw [show (ns.take 5).map V.int ++ [.int c] = (ns.take 5 ++ [c]).map V.int by rw [List.map_append]; rfl, newL_eq (Nat.le_trans (show _ ≤ 6 by rw [List.length_map, List.length_append, List.length_take, List.length_cons, List.length_nil]; omega) (small 6))]
    simp only [oCat_at b1 b2, e2, run_ok, vRef, Option.go, (At.new (S := S2) (o := .lst ((ns.take 5 ++ [c]).map V.int))).lstAt]
    exact ⟨S2.n, ns.take 5 ++ [c], rfl, At.new, by rw [List.length_append, List.length_take, List.length_cons, List.length_nil]; omega, bf.trans .push⟩
  refine (show RunS (Res.sb _ _ _) _ _ from ?_)
  rw [runS_sb]
  refine hcells.imp fun w S1 z => ?_
  obtain ⟨a, cs, rfl, ha, hcl, hf1⟩ := z
  clear hcells
  refine for_run cs.length (J := fun i σ' S' => ∃ e1 e2 e3 e4 e5 e6 e7 e8 e9 e10, σ' = [some (.ref 0), e1, e2, e3, e4, e5, e6, e7, e8, e9, e10] ∧ Fr0 S1 S') ?_ ?_ F 0 _ _ ⟨_, _, _, _, _, _, _, _, _, _, rfl, .refl⟩ (Nat.zero_le _) (by omega)
  case refine_2 =>
    rintro σ' S' ⟨e1, e2, e3, e4, e5, e6, e7, e8, e9, e10, rfl, hf⟩
    exact ⟨wk_seq0 (ha.fr0 hf).lstAt (by rw [List.length_map]; exact Nat.le_refl _), trivial⟩
  rintro i σ' S2 hi ⟨e1, e2, e3, e4, e5, e6, e7, e8, e9, e10, rfl, hf2⟩
  obtain ⟨cell, hcell⟩ : ∃ c, cs[i]? = some c := ⟨_, List.getElem?_eq_getElem hi⟩
  refine ⟨.int cell, S2, wkn_seq (ha.fr0 hf2).lstAt (by rw [List.getElem?_map, hcell]; rfl), ?_⟩
  show RunS (mSeq _ _ _ _) _ _
  simp only [List.set_cons_zero, List.set_cons_succ]
  -- the purse
  have hpurse : Run (gCall 2 f_law_purse (aCons (eVar 1) (aCons (eC (.int 1)) aNil)) [some (.ref 0), some (.int cell), e2, e3, e4, e5, e6, e7, e8, e9, e10] S2) fun v S3 => v = .ref S2.n ∧ Fr0 S2 S3 ∧ Pu S3 S2.n 0 := by
    simp only [runS_seq, runS_sb, runS_nx, runS_rt, run_bind, run_ok, run_body, run_call, run_noEx, mSet, mIf, mRet, mExpr, mNext, mAsg, mAug, mFor, gBin, gTest, gAnd, gOr, gNot, gAndV, gOrV, gNotV, gIfE, gCb, gMt, gLst, gTup, gSl, gLc, aCons, aNil, eVar, eC, pSome, pNone, tgName, tgCons, tgNil, L2.start, vInt, vStr, vRef, vBl, Hf.l1, Hf.l2, Option.go, Res.or, List.length_cons, List.length_nil, List.getElem?_cons_zero, List.getElem?_cons_succ, List.set_cons_zero, List.set_cons_succ, List.map_cons, List.map_nil, List.cons_append, List.nil_append, List.replicate, Nat.reduceSub, Nat.reduceAdd, Nat.zero_add, Option.some.injEq, true_and, and_true, if_true, eq_self, Option.some.injEq]
    exact law_purse_ok
  refine seqSet (hpurse.imp fun v S3 z => ?_)
  obtain ⟨rfl, hf3, hp3⟩ := z
  simp only [List.set_cons_zero, List.set_cons_succ]
  generalize hp : S2.n = p at *
  -- the rows
  have hrows : Run (gCall 2 f_law_rows (aCons (eVar 2) (aCons (gCall 2 f_law_take (aCons (eVar 2) (aCons (eC (.int 8)) aNil))) aNil)) [some (.ref 0), some (.int cell), some (.ref p), e3, e4, e5, e6, e7, e8, e9, e10] S3)
      fun v S' => ∃ (q l fr lo : Nat) (rows : List (List Nat)) (tss : List (List Tok)) (xs : List V), v = .ref q ∧ At S' q (.lst [.ref l, .ref fr]) ∧ At S' l (.lst (rows.map fun x => V.str (tx x))) ∧ At S' fr (.lst xs)
      ∧ LTs S' lo xs (flat 1 tss) ∧ rows.length ≤ 10 ∧ tss.length = rows.length ∧ RowsOK rows tss ∧ xs.length ≤ 1000 ∧ Fr1 p S3 S' := by
    simp only [runS_seq, runS_sb, runS_nx, runS_rt, run_bind, run_ok, run_body, run_call, run_noEx, mSet, mIf, mRet, mExpr, mNext, mAsg, mAug, mFor, gBin, gTest, gAnd, gOr, gNot, gAndV, gOrV, gNotV, gIfE, gCb, gMt, gLst, gTup, gSl, gLc, aCons, aNil, eVar, eC, pSome, pNone, tgName, tgCons, tgNil, L2.start, vInt, vStr, vRef, vBl, Hf.l1, Hf.l2, Option.go, Res.or, List.length_cons, List.length_nil, List.getElem?_cons_zero, List.getElem?_cons_succ, List.set_cons_zero, List.set_cons_succ, List.map_cons, List.map_nil, List.cons_append, List.nil_append, List.replicate, Nat.reduceSub, Nat.reduceAdd, Nat.zero_add, Option.some.injEq, true_and, and_true, if_true, eq_self, Option.some.injEq]
    refine (law_take_ok hp3 (by decide) (by decide) (by decide)).imp fun v S4 z => ?_
    obtain ⟨g, rfl, g1, g2, hf4, hp4, hn4⟩ := z
    refine (law_rows_ok hp4 (by decide) g1 (by omega)).imp fun v S5 z => ?_
    obtain ⟨q, l, fr, rows, tss, xs, rfl, z1, z2, z3, z4, z5, z6, z7, z8, z9, z10, z11, z12⟩ := z
    exact ⟨q, l, fr, _, rows, tss, xs, rfl, z1, z5, z6, z7, z8, z9, z10, z11, hf4.trans z12⟩
  refine seqAsg (hrows.imp fun v S5 z => ?_)
  obtain ⟨q, l, fr, lo, rows, tss, xs, rfl, hq, hl, hfr, hxs, hrl, htl, hok, hxl, hf5⟩ := z
  rw [un2L hq, run_ok]
  simp only [List.set_cons_zero, List.set_cons_succ]
  have hF5 : Fr0 S2 S5 := fr1_new hf3 (Nat.le_of_eq hp) hf5
  refine seqSet ((due_ok (x0 := some (.ref 0)) (x1 := some (.int cell)) (x2 := some (.ref p)) (x3 := some (.ref l)) (x5 := e5) (x6 := e6) (x7 := e7) (x8 := e8) (x9 := e9) (x10 := e10) hfr hxs hxl hF2 rfl).imp fun v S6 z => ?_)
  obtain ⟨D, ds, rfl, hDn, hf6, hD, hds⟩ := z
  simp only [List.set_cons_zero, List.set_cons_succ]
  have hl6 := hl.fr0 hf6
  have ebl : bList [.ref l] S6 = .ok (.ref S6.n) (S6.push (.lst (rows.map fun x => V.str (tx x)))) := by rw [bList_at hl6.seqL, newL_eq (Nat.le_trans (show _ ≤ 10 by rw [List.length_map]; exact hrl) (small 10))]
  refine seqSetOk (x := .ref S6.n) (S1 := S6.push (.lst (rows.map fun x => V.str (tx x)))) (by simp only [runS_seq, runS_sb, runS_nx, runS_rt, run_bind, run_ok, run_body, run_call, run_noEx, mSet, mIf, mRet, mExpr, mNext, mAsg, mAug, mFor, gBin, gTest, gAnd, gOr, gNot, gAndV, gOrV, gNotV, gIfE, gCb, gMt, gLst, gTup, gSl, gLc, aCons, aNil, eVar, eC, pSome, pNone, tgName, tgCons, tgNil, L2.start, vInt, vStr, vRef, vBl, Hf.l1, Hf.l2, Option.go, Res.or, List.length_cons, List.length_nil, List.getElem?_cons_zero, List.getElem?_cons_succ, List.set_cons_zero, List.set_cons_succ, List.map_cons, List.map_nil, List.cons_append, List.nil_append, List.replicate, Nat.reduceSub, Nat.reduceAdd, Nat.zero_add, Option.some.injEq, true_and, and_true, if_true, eq_self, Option.some.injEq, Res.bind, ebl]) ?_
  simp only [List.set_cons_zero, List.set_cons_succ]
  have hh7 : At (S6.push (.lst (rows.map fun x => V.str (tx x)))) S6.n (.lst (rows.map fun x => V.str (tx x))) := At.new
  have hl7 := hl6.push (o' := .lst (rows.map fun x => V.str (tx x)))
  have hD7 := hD.push (o' := .lst (rows.map fun x => V.str (tx x)))
  have hds7 := hds.stay (stay_push (o := .lst (rows.map fun x => V.str (tx x))))
  have hF7 : Fr0 S2 (S6.push (.lst (rows.map fun x => V.str (tx x)))) := (hF5.trans hf6).trans .push
  generalize S6.n = hd at *
  generalize S6.push (.lst (rows.map fun x => V.str (tx x))) = S7 at *
  have hks7 : Ks S7 := ks.fr ((hf1.trans hf2).trans hF7) id id
  -- the turns
  refine (show RunS (Res.sb _ _ _) _ _ from ?_)
  rw [runS_sb]
  simp only [wRng1, aCons, aNil, eC, run_bind, run_ok, Hf.l1, Option.go, vInt, rngOk_to (i := 2) (by decide) (by decide), if_true]
  refine for_run 2 (J := fun j σ' S' => ∃ e5 e6 e7 e9 e10, σ' = [some (.ref 0), some (.int cell), some (.ref p), some (.ref l), some (.ref D), e5, e6, e7, some (.ref hd), e9, e10] ∧ Fr0 S7 S') ?_ ?_ F 0 _ _ ⟨_, _, _, _, _, rfl, .refl⟩ (Nat.zero_le _) (by omega)
  case refine_2 =>
    rintro σ' S' ⟨e5, e6, e7, e9, e10, rfl, hf⟩
    exact ⟨wk_rng0 (Nat.lt_irrefl _), _, _, _, _, _, _, _, _, _, _, rfl, (hf2.trans hF7).trans hf⟩
  rintro j σ' S8 hj ⟨e5, e6, e7, e9, e10, rfl, hf8⟩
  refine ⟨_, S8, wkn_rng hj, ?_⟩
  show RunS (mSeq _ _ _ _) _ _
  simp only [List.set_cons_zero, List.set_cons_succ]
  have hh8 := hh7.fr0 hf8
  have hks8 := hks7.fr hf8 id id
  have hturn : Run (gBin iSeq (gLst (aCons (gCall 1 f_lexemes (aCons (eVar 8) aNil)) (aCons (gCallK 1 0 1 [(true, 0)] f_lexemes aNil (aCons (eVar 8) aNil)) aNil))) (eVar 9)
      [some (.ref 0), some (.int cell), some (.ref p), some (.ref l), some (.ref D), e5, e6, e7, some (.ref hd), some (.int (0 + (j : Nat))), e10] S8)
      fun v S' => ∃ (t : Nat) (ts : List V), v = .ref t ∧ Fr0 S8 S' ∧ At S' t (.lst ts) ∧ FTs S' ts (flat 1 tss) ∧ S8.n ≤ t ∧ ts.length ≤ 10000 := by
    simp only [runS_seq, runS_sb, runS_nx, runS_rt, run_bind, run_ok, run_body, run_call, run_noEx, mSet, mIf, mRet, mExpr, mNext, mAsg, mAug, mFor, gBin, gTest, gAnd, gOr, gNot, gAndV, gOrV, gNotV, gIfE, gCb, gMt, gLst, gTup, gSl, gLc, aCons, aNil, eVar, eC, pSome, pNone, tgName, tgCons, tgNil, L2.start, vInt, vStr, vRef, vBl, Hf.l1, Hf.l2, Option.go, Res.or, List.length_cons, List.length_nil, List.getElem?_cons_zero, List.getElem?_cons_succ, List.set_cons_zero, List.set_cons_succ, List.map_cons, List.map_nil, List.cons_append, List.nil_append, List.replicate, Nat.reduceSub, Nat.reduceAdd, Nat.zero_add, Option.some.injEq, true_and, and_true, if_true, eq_self, Option.some.injEq, gCallK]
    refine (lexemes_ok hh8 hrl htl hok.1 hks8).imp fun v S9 z => ?_
    obtain ⟨t1, ts1, rfl, g1, g2, g3, g4, g5⟩ := z
    simp only [runS_seq, runS_sb, runS_nx, runS_rt, run_bind, run_ok, run_body, run_call, run_noEx, mSet, mIf, mRet, mExpr, mNext, mAsg, mAug, mFor, gBin, gTest, gAnd, gOr, gNot, gAndV, gOrV, gNotV, gIfE, gCb, gMt, gLst, gTup, gSl, gLc, aCons, aNil, eVar, eC, pSome, pNone, tgName, tgCons, tgNil, L2.start, vInt, vStr, vRef, vBl, Hf.l1, Hf.l2, Option.go, Res.or, List.length_cons, List.length_nil, List.getElem?_cons_zero, List.getElem?_cons_succ, List.set_cons_zero, List.set_cons_succ, List.map_cons, List.map_nil, List.cons_append, List.nil_append, List.replicate, Nat.reduceSub, Nat.reduceAdd, Nat.zero_add, Option.some.injEq, true_and, and_true, if_true, eq_self, Option.some.injEq, show kPerm 0 1 [(true, 0)] ([] : List V) [V.ref hd] = [V.ref hd] from rfl]
    refine (lexemes_ok (hh8.fr0 g1) hrl htl hok.1 (hks8.fr g1 id id)).imp fun v S10 z => ?_
    obtain ⟨t2, ts2, rfl, m1, m2, m3, m4, m5⟩ := z
    simp only [run_newL]
    refine ⟨small 2, ?_⟩
    have ha := At.new (S := S10) (o := .lst [.ref t1, .ref t2])
    have hfa : Fr0 S8 (S10.push (.lst [.ref t1, .ref t2])) := (g1.trans m1).trans .push
    have hst : Stay S9 (S10.push (.lst [.ref t1, .ref t2])) := (fr0_stay m1).trans stay_push
    have hle := g1.le
    rcases (show j = 0 ∨ j = 1 by omega) with rfl | rfl
    · rw [iSeq_lst ha (v := .ref t1) (i := 0 + ((0 : Nat) : Int)) rfl, run_ok]
      exact ⟨t1, ts1, rfl, hfa, (g3.fr0 m1).push, g4.stay hst, g2, g5⟩
    · rw [iSeq_lst ha (v := .ref t2) (i := 0 + ((1 : Nat) : Int)) rfl, run_ok]
      exact ⟨t2, ts2, rfl, hfa, m3.push, m4.stay stay_push, by omega, m5⟩
  refine seqSet (hturn.imp fun v S9 z => ?_)
  obtain ⟨t, ts, rfl, hf9, ht, hts, htn, htl2⟩ := z
  simp only [List.set_cons_zero, List.set_cons_succ]
  have shT : Sh 3 (.list ((flat 1 tss).map tokD)) := sh_list fun d hd => by
    obtain ⟨u, hu, rfl⟩ := List.mem_map.mp hd
    exact flat_ok hok.2.2 u hu
  have shR : Sh 1 (.list (rows.map fun x => PyData.str (tx x))) := sh_list fun d hd => by
    obtain ⟨u, hu, rfl⟩ := List.mem_map.mp hd
    exact sh_tx (hok.2.1 u hu)
  have hf79 := hf8.trans hf9
  have n1 : oNe (.ref t) (.ref D) S9 = .ok (.bl false) S9 := oNeD_same (dat_lst (n := 63) ht hts.dat) (dat_lst (n := 63) (hD7.fr0 hf79) (hds7.stay (fr0_stay hf79)).dat) shT (by decide) _ rfl
  have n2 : oNe (.ref hd) (.ref l) S9 = .ok (.bl false) S9 := oNeD_same (dat_lst (n := 63) (hh7.fr0 hf79) (rows_dat rows)) (dat_lst (n := 63) (hl7.fr0 hf79) (rows_dat rows)) shR (by decide) _ rfl
  refine seqSkip (by simp only [runS_seq, runS_sb, runS_nx, runS_rt, run_bind, run_ok, run_body, run_call, run_noEx, mSet, mIf, mRet, mExpr, mNext, mAsg, mAug, mFor, gBin, gTest, gAnd, gOr, gNot, gAndV, gOrV, gNotV, gIfE, gCb, gMt, gLst, gTup, gSl, gLc, aCons, aNil, eVar, eC, pSome, pNone, tgName, tgCons, tgNil, L2.start, vInt, vStr, vRef, vBl, Hf.l1, Hf.l2, Option.go, Res.or, List.length_cons, List.length_nil, List.getElem?_cons_zero, List.getElem?_cons_succ, List.set_cons_zero, List.set_cons_succ, List.map_cons, List.map_nil, List.cons_append, List.nil_append, List.replicate, Nat.reduceSub, Nat.reduceAdd, Nat.zero_add, Option.some.injEq, true_and, and_true, if_true, eq_self, Option.some.injEq, Res.bind, isi_lst ht, Bool.not_true, n1, n2]) ?_
  refine seqMid (fun σ' S' => S' = S9 ∧ ∃ e5 e6 e7, σ' = [some (.ref 0), some (.int cell), some (.ref p), some (.ref l), some (.ref D), e5, e6, e7, some (.ref hd), some (.int (0 + (j : Nat))), some (.ref t)]) ?inner ?last
  case inner =>
    refine (show RunS (Res.sb (wSeq (eVar 10) _ _) _ _) _ _ from ?_)
    rw [runS_sb]
    simp only [wSeq, eVar, List.getElem?_cons_zero, List.getElem?_cons_succ, run_bind, run_ok, vRef, Option.go, ht.lstAt]
    refine for_run ts.length (J := fun i σ' S' => S' = S9 ∧ ∃ e5 e6 e7, σ' = [some (.ref 0), some (.int cell), some (.ref p), some (.ref l), some (.ref D), e5, e6, e7, some (.ref hd), some (.int (0 + (j : Nat))), some (.ref t)]) ?_ ?_ F 0 _ _ ⟨rfl, _, _, _, rfl⟩ (Nat.zero_le _) (by omega)
    · rintro i σ' S' hi ⟨rfl, e5, e6, e7, rfl⟩
      obtain ⟨v, hv⟩ : ∃ v, ts[i]? = some v := ⟨_, List.getElem?_eq_getElem hi⟩
      obtain ⟨n, tk, x, y, rfl, hx, hy⟩ := fts_get hts i v hv
      refine ⟨.ref x, S', wkn_seq ht.lstAt hv, ?_⟩
      rw [un3T hx, run_ok]
      simp only [List.set_cons_zero, List.set_cons_succ]
      have i0 := iSeq_tup hy (show L2.atI [V.int n, V.int (tk.1 : Nat)] 0 = some (V.int n) from rfl)
      refine midIfF (S1 := S') (by simp only [runS_seq, runS_sb, runS_nx, runS_rt, run_bind, run_ok, run_body, run_call, run_noEx, mSet, mIf, mRet, mExpr, mNext, mAsg, mAug, mFor, gBin, gTest, gAnd, gOr, gNot, gAndV, gOrV, gNotV, gIfE, gCb, gMt, gLst, gTup, gSl, gLc, aCons, aNil, eVar, eC, pSome, pNone, tgName, tgCons, tgNil, L2.start, vInt, vStr, vRef, vBl, Hf.l1, Hf.l2, Option.go, Res.or, List.length_cons, List.length_nil, List.getElem?_cons_zero, List.getElem?_cons_succ, List.set_cons_zero, List.set_cons_succ, List.map_cons, List.map_nil, List.cons_append, List.nil_append, List.replicate, Nat.reduceSub, Nat.reduceAdd, Nat.zero_add, Option.some.injEq, true_and, and_true, if_true, eq_self, Option.some.injEq, Res.bind, isi_tup hy, Bool.not_true, i0, isi_int, isi_str]) ?_
      exact ⟨rfl, _, _, _, rfl⟩
    · rintro σ' S' ⟨rfl, e5, e6, e7, rfl⟩
      exact ⟨wk_seq0 ht.lstAt (Nat.le_refl _), rfl, _, _, _, rfl⟩
  case last =>
    rintro σ' S' ⟨rfl, e5, e6, e7, rfl⟩
    have happ := mAppend_at (v := .str "zz") ht (Nat.lt_of_le_of_lt htl2 (by decide))
    refine seqExprOk (x := .non) (S1 := S'.set t (.lst (ts ++ [.str "zz"]))) (by simp only [runS_seq, runS_sb, runS_nx, runS_rt, run_bind, run_ok, run_body, run_call, run_noEx, mSet, mIf, mRet, mExpr, mNext, mAsg, mAug, mFor, gBin, gTest, gAnd, gOr, gNot, gAndV, gOrV, gNotV, gIfE, gCb, gMt, gLst, gTup, gSl, gLc, aCons, aNil, eVar, eC, pSome, pNone, tgName, tgCons, tgNil, L2.start, vInt, vStr, vRef, vBl, Hf.l1, Hf.l2, Option.go, Res.or, List.length_cons, List.length_nil, List.getElem?_cons_zero, List.getElem?_cons_succ, List.set_cons_zero, List.set_cons_succ, List.map_cons, List.map_nil, List.cons_append, List.nil_append, List.replicate, Nat.reduceSub, Nat.reduceAdd, Nat.zero_add, Option.some.injEq, true_and, and_true, if_true, eq_self, Option.some.injEq, Res.bind, isTy_lst ht, happ]) ?_
    have ht2 : At (S'.set t (.lst (ts ++ [.str "zz"]))) t (.lst (ts ++ [.str "zz"])) := ht.seti
    have hf10 : Fr0 S8 (S'.set t (.lst (ts ++ [.str "zz"]))) := hf9.setNew (.inl htn)
    have hrev := mReverse_at ht2
    have hty := isTy_lst ht2
    generalize S'.set t (.lst (ts ++ [.str "zz"])) = S10 at *
    show RunS (Res.sb _ _ _) _ _
    rw [runS_sb]
    simp only [runS_seq, runS_sb, runS_nx, runS_rt, run_bind, run_ok, run_body, run_call, run_noEx, mSet, mIf, mRet, mExpr, mNext, mAsg, mAug, mFor, gBin, gTest, gAnd, gOr, gNot, gAndV, gOrV, gNotV, gIfE, gCb, gMt, gLst, gTup, gSl, gLc, aCons, aNil, eVar, eC, pSome, pNone, tgName, tgCons, tgNil, L2.start, vInt, vStr, vRef, vBl, Hf.l1, Hf.l2, Option.go, Res.or, List.length_cons, List.length_nil, List.getElem?_cons_zero, List.getElem?_cons_succ, List.set_cons_zero, List.set_cons_succ, List.map_cons, List.map_nil, List.cons_append, List.nil_append, List.replicate, Nat.reduceSub, Nat.reduceAdd, Nat.zero_add, Option.some.injEq, true_and, and_true, if_true, eq_self, Option.some.injEq, hty, hrev]
    exact ⟨_, _, _, _, _, rfl, hf8.trans (hf10.setNew (.inl htn))⟩
end K01

namespace K01
open PySem PySem.Spec L2 Hf
def spLaw (K : PySem.W.Frag) : Sp := fun vs H Q _ => ∃ (a : Addr) (ns : List Int), vs = [.ref a] ∧ SqL K H a (ns.map V.int) ∧ ns.length ≤ 63 ∧ ∀ H', Q (.bl true) H'
section
variable {G : Fix} {P : Program} {w : World} {K : PySem.W.Frag} {mg : Str → Option Value} {base : Heap} {a : Nat → Addr} {fd : Nat → FuncData}
theorem law_of (hK : ∀ k xs, kts[k]? = some xs → KSq "tuple" K (G.sta k) xs) {k : Nat} {f : Addr} {fd : FuncData} (D : FnOk P w K mg base (L2.CX P w) k f fd P_law (SpG G K 1 f_law)) : FnOk P w K mg base (L2.CX P w) k f fd P_law (spLaw K) := by
  refine D.imp fun vs H Q E h => ?_
  obtain ⟨a, ns, rfl, hS, hl, q⟩ := h
  have hns : mvs (fun i => match i with | 0 => a | k + 1 => G.sta k) (ns.map V.int) = ns.map V.int := by
    show (ns.map V.int).map _ = _
    rw [List.map_map]
    rfl
  have fin : ∀ b : Bool, Holds G K (fun i => match i with | 0 => a | k + 1 => G.sta k) H 0 (.frz b (ns.map V.int)) → SpG G K 1 f_law [.ref a] H Q E := fun b hb => by
    refine ⟨fun i => match i with | 0 => a | k + 1 => G.sta k, mkS (os0 b ns), [.ref 0], rfl, rfl, rel_mk (fun i o e => ?_) (fun i j oi oj e1 e2 t1 t2 => ?_) (fun o ho => ?_), (fun x hx => ?_), ?_⟩
    · match i, e with
      | 0, e => cases e; exact hb
      | 1, e => cases e; exact ⟨rfl, by rw [flatmap (xs := k_WORDS) (by decide +kernel)]; exact hK 0 _ rfl⟩
      | 2, e => cases e; exact ⟨rfl, by rw [flatmap (xs := k_SIGNS) (by decide +kernel)]; exact hK 1 _ rfl⟩
      | n + 3, e => exact nomatch e
    · match i, j, e1, e2, t1, t2 with
      | 0, 0, _, _, _, _ => rfl
      | 1, _, e1, _, t1, _ => cases e1; cases t1
      | _, 1, _, e2, _, t2 => cases e2; cases t2
      | 2, _, e1, _, t1, _ => cases e1; cases t1
      | _, 2, _, e2, _, t2 => cases e2; cases t2
      | n + 3, _, e1, _, _, _ => exact nomatch e1
      | _, n + 3, _, e2, _, _ => exact nomatch e2
    · have flat : ∀ (xs : List V), xs.all flatV = true → wfs (os0 b ns).length xs := fun xs hx x hm => by
        have := List.all_eq_true.mp hx x hm
        cases x <;> first | trivial | cases this
      rcases List.mem_cons.mp ho with rfl | ho
      · exact flat _ (by rw [List.all_eq_true]; intro x hx; obtain ⟨i, _, rfl⟩ := List.mem_map.mp hx; rfl)
      rcases List.mem_cons.mp ho with rfl | ho
      · exact flat _ (by decide +kernel)
      rcases List.mem_cons.mp ho with rfl | ho
      · exact flat _ (by decide +kernel)
      cases ho
    · rcases List.mem_cons.mp hx with rfl | hx
      · rw [mkS_n]
        exact Nat.succ_pos _
      · cases hx
    · obtain ⟨v, S, e, hv⟩ := (law_true b ns hl).get
      rw [e, hv]
      exact fun m' H' _ _ _ _ => q H'
  rcases hS with hS | hS
  · exact fin true (by show Rd H a (.lst (mvs _ (ns.map V.int))); rw [hns]; exact hS)
  · exact fin false (by show KSq "list" K a (mvs _ (ns.map V.int)); rw [hns]; exact hS)
end
theorem all_mk {l : PySem.W.OpenLaw} {w : World} {K : PySem.W.Frag} {h : Heap} {mg : Str → Option Value} {fa : Addr} (X : K.In h) (Gn : h.Ns mainGlobals mg) (hfa : mg "law" = some (.ref fa))
    (F_run_end : FAt K "run_end" s_run_end) (F_law_mixed : FAt K "_law_mixed" s_law_mixed) (F_law_at : FAt K "_law_at" s_law_at) (F_law_words : FAt K "_law_words" s_law_words) (F_law_grow : FAt K "_law_grow" s_law_grow) (F_lexeme_end : FAt K "lexeme_end" s_lexeme_end) (F_law_purse : FAt K "_law_purse" s_law_purse) (F_law_take : FAt K "_law_take" s_law_take) (F_law_touches : FAt K "_law_touches" s_law_touches) (F_row_lexemes : FAt K "row_lexemes" s_row_lexemes) (F_law_word : FAt K "_law_word" s_law_word) (F_lexemes : FAt K "lexemes" s_lexemes) (F_law_row : FAt K "_law_row" s_law_row) (F_law_rows : FAt K "_law_rows" s_law_rows) (F_law : FAt K "law" s_law) (C_FIGURES : CAt K "FIGURES" (.str k_FIGURES)) (C_GREAT : CAt K "GREAT" (.str k_GREAT)) (C_MOST_LETTERS : CAt K "MOST_LETTERS" (.int 8)) (T_SIGNS : TAt K "SIGNS" k_SIGNS) (C_SMALL : CAt K "SMALL" (.str k_SMALL)) (T_WORDS : TAt K "WORDS" k_WORDS) (Z_bool : PySem.W.nsIn K mainGlobals "bool" = some none) (Z_enumerate : PySem.W.nsIn K mainGlobals "enumerate" = some none) (Z_int : PySem.W.nsIn K mainGlobals "int" = some none) (Z_isinstance : PySem.W.nsIn K mainGlobals "isinstance" = some none) (Z_len : PySem.W.nsIn K mainGlobals "len" = some none) (Z_list : PySem.W.nsIn K mainGlobals "list" = some none) (Z_range : PySem.W.nsIn K mainGlobals "range" = some none) (Z_str : PySem.W.nsIn K mainGlobals "str" = some none) (Z_tuple : PySem.W.nsIn K mainGlobals "tuple" = some none) :
    ∃ fd : FuncData, (∀ (s : Shared) (v : Value), BindsTo s fd ⟨[v], []⟩ [("script", v)]) ∧ ∀ base : Heap, K.In base → base.Ns mainGlobals mg → FnOk l.prog w K mg base (L2.CX l.prog w) 6 fa fd P_law (spLaw K) := by
  obtain ⟨f0, d0, F0, M0⟩ := F_run_end.get X Gn
  obtain ⟨f1, d1, F1, M1⟩ := F_law_mixed.get X Gn
  obtain ⟨f2, d2, F2, M2⟩ := F_law_at.get X Gn
  obtain ⟨f3, d3, F3, M3⟩ := F_law_words.get X Gn
  obtain ⟨f4, d4, F4, M4⟩ := F_law_grow.get X Gn
  obtain ⟨f5, d5, F5, M5⟩ := F_lexeme_end.get X Gn
  obtain ⟨f6, d6, F6, M6⟩ := F_law_purse.get X Gn
  obtain ⟨f7, d7, F7, M7⟩ := F_law_take.get X Gn
  obtain ⟨f8, d8, F8, M8⟩ := F_law_touches.get X Gn
  obtain ⟨f9, d9, F9, M9⟩ := F_row_lexemes.get X Gn
  obtain ⟨f10, d10, F10, M10⟩ := F_law_word.get X Gn
  obtain ⟨f11, d11, F11, M11⟩ := F_lexemes.get X Gn
  obtain ⟨f12, d12, F12, M12⟩ := F_law_row.get X Gn
  obtain ⟨f13, d13, F13, M13⟩ := F_law_rows.get X Gn
  obtain ⟨fL, oc, od, kV, dc, pm, an, cd, ct, sl, h1, h2, h3, h4⟩ := F_law
  have ML := PySem.W.mg_of X Gn h1
  have e := hfa.symm.trans ML
  cases e
  obtain ⟨aT0, MT0, KT0⟩ := T_WORDS.get X Gn
  obtain ⟨aT1, MT1, KT1⟩ := T_SIGNS.get X Gn
  have T : Txt ⟨fun _ => 0, fun k => match k with | 0 => aT0 | 1 => aT1 | _ => 0⟩ K mg (fun i => match i with | 0 => f0 | 1 => f1 | 2 => f2 | 3 => f3 | 4 => f4 | 5 => f5 | 6 => f6 | 7 => f7 | 8 => f8 | 9 => f9 | 10 => f10 | 11 => f11 | 12 => f12 | 13 => f13 | _ => fa) (fun i => match i with | 0 => d0 | 1 => d1 | 2 => d2 | 3 => d3 | 4 => d4 | 5 => d5 | 6 => d6 | 7 => d7 | 8 => d8 | 9 => d9 | 10 => d10 | 11 => d11 | 12 => d12 | 13 => d13 | _ => PySem.W.fnOf "law" "law" (defArgs s_law) (defBody s_law) (defScope s_law) .none kV dc pm an cd ct) :=
    { Frun_end := F0, Mrun_end := M0, Flaw_mixed := F1, Mlaw_mixed := M1, Flaw_at := F2, Mlaw_at := M2, Flaw_words := F3, Mlaw_words := M3, Flaw_grow := F4, Mlaw_grow := M4, Flexeme_end := F5, Mlexeme_end := M5, Flaw_purse := F6, Mlaw_purse := M6, Flaw_take := F7, Mlaw_take := M7, Flaw_touches := F8, Mlaw_touches := M8, Frow_lexemes := F9, Mrow_lexemes := M9, Flaw_word := F10, Mlaw_word := M10, Flexemes := F11, Mlexemes := M11, Flaw_row := F12, Mlaw_row := M12, Flaw_rows := F13, Mlaw_rows := M13, Flaw := fun_mk (st := s_law) h2 h3 h4, Mlaw := ML, z_bool := PySem.W.mg_none_of X Gn Z_bool, z_enumerate := PySem.W.mg_none_of X Gn Z_enumerate, z_int := PySem.W.mg_none_of X Gn Z_int, z_isinstance := PySem.W.mg_none_of X Gn Z_isinstance, z_len := PySem.W.mg_none_of X Gn Z_len, z_list := PySem.W.mg_none_of X Gn Z_list, z_range := PySem.W.mg_none_of X Gn Z_range, z_str := PySem.W.mg_none_of X Gn Z_str, z_tuple := PySem.W.mg_none_of X Gn Z_tuple, c_FIGURES := C_FIGURES.get X Gn, c_GREAT := C_GREAT.get X Gn, c_MOST_LETTERS := C_MOST_LETTERS.get X Gn, c_SIGNS := MT1, c_SMALL := C_SMALL.get X Gn, c_WORDS := MT0 }
  refine ⟨PySem.W.fnOf "law" "law" (defArgs s_law) (defBody s_law) (defScope s_law) .none kV dc pm an cd ct, fun s v => .of_eq rfl, fun base _ _ => law_of (fun k xs e => ?_) (d_law T).ok⟩
  match k, e with
  | 0, e => cases e; exact KT0
  | 1, e => cases e; exact KT1
  | n + 2, e => exact nomatch e
theorem walk {l : PySem.W.OpenLaw} {q : Program} {loose : List Str} {XP : (Str → Option Value) → Heap → Prop} {YP : World → Heap → Prop} {d : DefRec} {K : Params → PySem.W.Frag} (hn : l.most = some 63) (hdf : d.params.defaults = [])
    (hY : ∀ (w : World) (h : Heap), YP w h → (K w.params).In h)
    (F : ∀ (w : World) (mg : Str → Option Value) (fa : Addr) (h : Heap), (K w.params).In h → h.Ns mainGlobals mg → mg d.name = some (.ref fa) →
      ∃ fd : FuncData, (∀ (s : Shared) (u : Value), BindsTo s fd ⟨[u], []⟩ [("script", u)]) ∧ ∀ base : Heap, (K w.params).In base → base.Ns mainGlobals mg → FnOk l.prog w (K w.params) mg base (L2.CX l.prog w) 6 fa fd P_law (spLaw (K w.params))) :
    PySem.W.WalkO q loose XP YP l.row.toRowW d [] (fun f vs => PySem.call f vs) :=
  L2.walk_of (n := 63) (k := 6) (x := "script") (CX := fun w => L2.CX l.prog w) (sp := fun w => spLaw (K w.params)) hn (by decide) hdf ⟨rfl, by decide, by decide⟩ hY F (fun _ _ a ns hl _ hS => ⟨a, ns, rfl, hS, hl, fun _ => rfl⟩) fun _ _ _ _ _ z => by
    obtain ⟨_, _, _, _, _, _, _, _, _, _, _, _, z⟩ := z
    exact z
end K01
open PySem PySem.W PyProof.Rows Hf in
set_option maxRecDepth 100000 in
set_option maxHeartbeats 0 in
theorem PySem.Challenge.cw_holefills_k01_lexemes_holds : PySem.Challenge.rw_holefills_k01_lexemes.Holds := by
  w_on; o_law; k_head; (case hw => w_witness2)
  k_fill
  refine K01.walk (l := PySem.Challenge.rw_holefills_k01_lexemes) rfl rfl (fun w h Y => PySem.W.kIn_of Y) ?F
  case F =>
    intro w mg fa h KX G hmg
    refine' K01.all_mk KX G hmg ?F_run_end ?F_law_mixed ?F_law_at ?F_law_words ?F_law_grow ?F_lexeme_end ?F_law_purse ?F_law_take ?F_law_touches ?F_row_lexemes ?F_law_word ?F_lexemes ?F_law_row ?F_law_rows ?F_law ?C_FIGURES ?C_GREAT ?C_MOST_LETTERS ?T_SIGNS ?C_SMALL ?T_WORDS ?Z_bool ?Z_enumerate ?Z_int ?Z_isinstance ?Z_len ?Z_list ?Z_range ?Z_str ?Z_tuple
    (case F_run_end => (refine' FAt.mk ?h1 ?h2 ?h3 ?h4; (case h1 => k_is); (case h2 => k_is); (case h3 => k_is); (case h4 => k_is)))
    (case F_law_mixed => (refine' FAt.mk ?h1 ?h2 ?h3 ?h4; (case h1 => k_is); (case h2 => k_is); (case h3 => k_is); (case h4 => k_is)))
    (case F_law_at => (refine' FAt.mk ?h1 ?h2 ?h3 ?h4; (case h1 => k_is); (case h2 => k_is); (case h3 => k_is); (case h4 => k_is)))
    (case F_law_words => (refine' FAt.mk ?h1 ?h2 ?h3 ?h4; (case h1 => k_is); (case h2 => k_is); (case h3 => k_is); (case h4 => k_is)))
    (case F_law_grow => (refine' FAt.mk ?h1 ?h2 ?h3 ?h4; (case h1 => k_is); (case h2 => k_is); (case h3 => k_is); (case h4 => k_is)))
    (case F_lexeme_end => (refine' FAt.mk ?h1 ?h2 ?h3 ?h4; (case h1 => k_is); (case h2 => k_is); (case h3 => k_is); (case h4 => k_is)))
    (case F_law_purse => (refine' FAt.mk ?h1 ?h2 ?h3 ?h4; (case h1 => k_is); (case h2 => k_is); (case h3 => k_is); (case h4 => k_is)))
    (case F_law_take => (refine' FAt.mk ?h1 ?h2 ?h3 ?h4; (case h1 => k_is); (case h2 => k_is); (case h3 => k_is); (case h4 => k_is)))
    (case F_law_touches => (refine' FAt.mk ?h1 ?h2 ?h3 ?h4; (case h1 => k_is); (case h2 => k_is); (case h3 => k_is); (case h4 => k_is)))
    (case F_row_lexemes => (refine' FAt.mk ?h1 ?h2 ?h3 ?h4; (case h1 => k_is); (case h2 => k_is); (case h3 => k_is); (case h4 => k_is)))
    (case F_law_word => (refine' FAt.mk ?h1 ?h2 ?h3 ?h4; (case h1 => k_is); (case h2 => k_is); (case h3 => k_is); (case h4 => k_is)))
    (case F_lexemes => (refine' FAt.mk ?h1 ?h2 ?h3 ?h4; (case h1 => k_is); (case h2 => k_is); (case h3 => k_is); (case h4 => k_is)))
    (case F_law_row => (refine' FAt.mk ?h1 ?h2 ?h3 ?h4; (case h1 => k_is); (case h2 => k_is); (case h3 => k_is); (case h4 => k_is)))
    (case F_law_rows => (refine' FAt.mk ?h1 ?h2 ?h3 ?h4; (case h1 => k_is); (case h2 => k_is); (case h3 => k_is); (case h4 => k_is)))
    (case F_law => (refine' FAt.mk ?h1 ?h2 ?h3 ?h4; (case h1 => k_is); (case h2 => k_is); (case h3 => k_is); (case h4 => k_is)))
    (case C_FIGURES => (refine' CAt.mk ?h1 ?h2; (case h1 => k_is); (case h2 => exact ⟨_, rfl⟩)))
    (case C_GREAT => (refine' CAt.mk ?h1 ?h2; (case h1 => k_is); (case h2 => exact ⟨_, rfl⟩)))
    (case C_MOST_LETTERS => (refine' CAt.mk ?h1 ?h2; (case h1 => k_is); (case h2 => exact ⟨_, rfl⟩)))
    (case T_SIGNS => (refine' TAt.mk ?h1 ?h2 ?h3 ?h4; (case h1 => k_is); (case h2 => k_is); (case h3 => decide); (case h4 => exact (.cons ⟨_, rfl⟩ (.cons ⟨_, rfl⟩ (.cons ⟨_, rfl⟩ (.cons ⟨_, rfl⟩ (.cons ⟨_, rfl⟩ (.cons ⟨_, rfl⟩ (.cons ⟨_, rfl⟩ (.cons ⟨_, rfl⟩ (.cons ⟨_, rfl⟩ (.cons ⟨_, rfl⟩ (.cons ⟨_, rfl⟩ .nil))))))))))))))
    (case C_SMALL => (refine' CAt.mk ?h1 ?h2; (case h1 => k_is); (case h2 => exact ⟨_, rfl⟩)))
    (case T_WORDS => (refine' TAt.mk ?h1 ?h2 ?h3 ?h4; (case h1 => k_is); (case h2 => k_is); (case h3 => decide); (case h4 => exact (.cons ⟨_, rfl⟩ (.cons ⟨_, rfl⟩ (.cons ⟨_, rfl⟩ (.cons ⟨_, rfl⟩ (.cons ⟨_, rfl⟩ (.cons ⟨_, rfl⟩ (.cons ⟨_, rfl⟩ (.cons ⟨_, rfl⟩ (.cons ⟨_, rfl⟩ .nil))))))))))))
    (case Z_bool => k_is)
    (case Z_enumerate => k_is)
    (case Z_int => k_is)
    (case Z_isinstance => k_is)
    (case Z_len => k_is)
    (case Z_list => k_is)
    (case Z_range => k_is)
    (case Z_str => k_is)
    (case Z_tuple => k_is)

