import PyProof.Rows.All
import Wide.All
import OpenK.AllK
import Wide.FinOn
import Lean
import PySem.Challenge.RW_pq0746_01
open PySem PySem.W PyProof.Rows
set_option Elab.async false
set_option maxRecDepth 100000
set_option maxHeartbeats 8000000
set_option compiler.extract_closed false
namespace Mine
open_top hd for PySem.Challenge.rw_pq0746_01
open PySem.Calls
theorem om1 {a b k : Nat} (h : max a b ≤ k) : a ≤ k := Nat.le_trans (Nat.le_max_left _ _) h
theorem om2 {a b k : Nat} (h : max a b ≤ k) : b ≤ k := Nat.le_trans (Nat.le_max_right _ _) h
theorem om3 {a b n m : Nat} (h : a + b ≤ n) (c : n ≤ m) : a ≤ m := Nat.le_trans (Nat.le_trans (Nat.le_add_right _ _) h) c
theorem om4 {a b n m : Nat} (h : a + b ≤ n) (c : n ≤ m) : b ≤ m := Nat.le_trans (Nat.le_trans (Nat.le_add_left _ _) h) c
theorem om5 {a b n m : Nat} (h : a + (b + 1) ≤ n) (c : n ≤ m) : a + b ≤ m := Nat.le_trans (Nat.le_of_succ_le h) c
theorem om6 {a b n m : Nat} (h : a + (b + 1) ≤ n) (c : n ≤ m) : a + 1 + b ≤ m := Nat.le_trans (Nat.le_trans (Nat.le_of_eq (Nat.add_right_comm a 1 b)) h) c
theorem om7 {a b t : Nat} (h1 : t ≤ 10) (h2 : a ≤ t) (h3 : b ≤ t) : a + b ≤ 1000 := Nat.le_trans (Nat.add_le_add (Nat.le_trans h2 h1) (Nat.le_trans h3 h1)) (by decide)
theorem om8 {a t n m : Nat} (h1 : t ≤ n) (h2 : a ≤ t) (c : n ≤ m) : a ≤ m := Nat.le_trans h2 (Nat.le_trans h1 c)
theorem om8' {a t n m : Nat} (h2 : a ≤ t) (h1 : t ≤ n) (c : n ≤ m) : a ≤ m := Nat.le_trans h2 (Nat.le_trans h1 c)
theorem om9 {c d k : Nat} (h : c ≤ d) : c ≤ k + d := Nat.le_trans h (Nat.le_add_left _ _)
theorem om10 {a b n : Nat} (h1 : a + 1 ≤ n) (h2 : b ≤ a) : b ≤ n := Nat.le_trans h2 (Nat.le_of_succ_le h1)
theorem om11 {X a b : Nat} (h1 : a < b) (h2 : b ≤ X) : 2 * (X - b) + 1 < 2 * (X - a) + 1 := Nat.succ_lt_succ (Nat.mul_lt_mul_of_pos_left (Nat.sub_lt_sub_left (Nat.lt_of_lt_of_le h1 h2) h1) (by decide))
theorem om12 {X a b : Nat} (h1 : a ≤ b) (_ : b ≤ X) : 2 * (X - b) < 2 * (X - a) + 1 := Nat.lt_succ_of_le (Nat.mul_le_mul_left 2 (Nat.sub_le_sub_left h1 X))
theorem om20 {a b c un uo : Nat} (h1 : b ≤ c) (h2 : un + (c + 1) ≤ uo) : a + b + un < a + 1 + uo := by omega
theorem om21 {a b c m : Nat} (h : m = a + (b + 1) + c) (hm : m ≤ 1000) : b ≤ 1000 := by omega
theorem om13 {a b c n m : Nat} (h : a + b + c ≤ n) (d : n ≤ m) : a ≤ m := om3 (Nat.add_assoc a b c ▸ h) d
theorem om14 {a b c n m : Nat} (h : a + b + c ≤ n) (d : n ≤ m) : b ≤ m := om4 (om3 h d) (Nat.le_refl _)
theorem om15 {a b c d : Nat} (h1 : a ≤ b) (h2 : b ≤ c) (h3 : c ≤ d) : a ≤ d := Nat.le_trans h1 (Nat.le_trans h2 h3)
theorem om16 {a b c d : Nat} (h1 : a ≤ b) (h2 : b ≤ c) (h3 : c < d) : a < d := Nat.lt_of_le_of_lt h1 (Nat.lt_of_le_of_lt h2 h3)
theorem om17 {a b c d : Nat} (h1 : a < b) (h2 : b ≤ c) (h3 : c ≤ d) : a < d := Nat.lt_of_lt_of_le h1 (Nat.le_trans h2 h3)
theorem om18 {a b c n : Nat} (h1 : a + 1 ≤ n) (h2 : b + c ≤ a) : b ≤ n := om10 h1 (om3 h2 (Nat.le_refl _))
/- the heap never shrinks -/
theorem runs_size {M : Model} {Γ : Ctx} {p : Pos} {t : Sem Fin} {fs : List Frame} {s s' : Shared} {e : End} (h : Runs M Γ p t fs s e s') : s.heap.objs.size ≤ s'.heap.objs.size := by
  induction h <;> (try simp only [Shared.setGen, Heap.size_push, Heap.size_after_update] at *) <;> omega
theorem returns_size {M : Model} {Γ : Ctx} {p : Pos} {s s' : Shared} {r : Result} (h : Returns M Γ p s r s') : s.heap.objs.size ≤ s'.heap.objs.size := runs_size h
theorem wakes_size {M : Model} {Γ : Ctx} {p : Pos} {g : Nat} {r : Resume} {s s' : Shared} {res : GenResult} (h : Wakes M Γ p g r s res s') : s.heap.objs.size ≤ s'.heap.objs.size := by
  unfold Wakes at h
  split at h
  · exact h.elim
  · split at h
    · obtain ⟨e₁, s₁, hr, _, _, rfl⟩ := h; exact (runs_size hr : (s.setGen g .running).heap.objs.size ≤ s₁.heap.objs.size)
    · rw [h.2]; exact Nat.le_refl _
    · rw [h.2]; exact Nat.le_refl _
  · obtain ⟨e₁, s₁, hr, _, _, rfl⟩ := h; exact (runs_size hr : (s.setGen g .running).heap.objs.size ≤ s₁.heap.objs.size)
  · rw [h.2]; exact Nat.le_refl _
  · rw [h.2]; exact Nat.le_refl _
theorem wp_size {α : Type} (M : Model) (Γ : Ctx) (n : Nat) (t : Sem α) : ∀ (Q : α → Pos → Shared → Prop) (E : Value → Pos → Shared → Prop) (p : Pos) (s : Shared), n ≤ s.heap.objs.size → Sem.wp M Γ t Q E p s →
    Sem.wp M Γ t (fun a p' s' => n ≤ s'.heap.objs.size ∧ Q a p' s') (fun e p' s' => n ≤ s'.heap.objs.size ∧ E e p' s') p s := by
  induction t with
  | pure a => intro Q E p s hn h; exact ⟨hn, h⟩
  | raise e => intro Q E p s hn h; exact ⟨hn, h⟩
  | unsupported _ => intro Q E p s _ h; exact h
  | finish _ => intro Q E p s _ h; exact h
  | rule _ k ih => intro Q E p s hn h; exact ih () Q E p s hn h
  | «at» p' k ih => intro Q E p s hn h; exact ih () Q E p' s hn h
  | load a _ k ih => intro Q E p s hn h; obtain ⟨o, ho, h⟩ := h; exact ⟨o, ho, ih o Q E p s hn h⟩
  | update a _ f k ih => intro Q E p s hn h; exact ⟨h.1, ih () Q E p _ (by show n ≤ (s.heap.update a f).objs.size; rw [Heap.size_after_update]; exact hn) h.2⟩
  | loadIfAlive a k ih => intro Q E p s hn h; exact ih _ Q E p s hn h
  | point _ k ih => intro Q E p s hn h; exact ih () Q E p s hn h
  | register _ _ => intro Q E p s _ h; exact h
  | alloc o k ih => intro Q E p s hn h; exact ih _ Q E p _ (by show n ≤ (s.heap.push o).objs.size; rw [Heap.size_push]; exact Nat.le_succ_of_le (by assumption)) h
  | fresh k ih => intro Q E p s hn h; exact ih _ Q E p _ hn h
  | ask k ih => intro Q E p s hn h; exact ih _ Q E p s hn h
  | choose src m k ih => intro Q E p s hn h; exact ⟨h.1, ih _ Q E p _ hn h.2⟩
  | os q _ k ih => intro Q E p s hn h; exact ih _ Q E p _ hn h
  | call c hd _ _ k ih => intro Q E p s hn h; obtain ⟨r, s', hr, h⟩ := h; exact ⟨r, s', hr, ih r Q E p s' (Nat.le_trans hn (returns_size hr)) h⟩
  | handled own k ih => intro Q E p s hn h; exact ih _ Q E p s hn h
  | genState g k ih => intro Q E p s hn h; obtain ⟨st, hs, h⟩ := h; exact ⟨st, hs, ih _ Q E p s hn h⟩
  | newGen c k ih => intro Q E p s hn h; exact ih _ Q E p _ hn h
  | resume g r _ k ih => intro Q E p s hn h; obtain ⟨res, s', hw, h⟩ := h; exact ⟨res, s', hw, ih res Q E p s' (Nat.le_trans hn (wakes_size hw)) h⟩
  | yield _ _ _ _ => intro Q E p s _ h; exact h
  | stack k ih => intro Q E p s hn h; exact ih _ Q E p s hn h
  | fork _ _ => intro Q E p s _ h; exact h
  | thread k ih => intro Q E p s hn h; exact ih _ Q E p s hn h
  | await _ _ _ _ _ => intro Q E p s _ h; exact h
theorem with_size {α : Type} {M : Model} {A : Around} {s : Shared} {t : Sem α} {Q : α → Shared → Prop} {E : Value → Shared → Prop}
    (h : wpAny M A t (fun a s' => s.heap.objs.size ≤ s'.heap.objs.size → Q a s') E s) : wpAny M A t Q E s :=
  wpAny_mono (Q := fun a s' => s.heap.objs.size ≤ s'.heap.objs.size ∧ (s.heap.objs.size ≤ s'.heap.objs.size → Q a s')) (E := fun e s' => s.heap.objs.size ≤ s'.heap.objs.size ∧ E e s')
    (fun Γ p hΓ => wp_size M Γ s.heap.objs.size t _ _ p s (Nat.le_refl _) (h Γ p hΓ)) (fun _ _ x => x.2 x.1) (fun _ _ x => x.2)
theorem with_size_code {M : Model} {A : Around} {s : Shared} {c : Code} {R : Result → Shared → Prop} (h : codeAny M A c (fun r s' => s.heap.objs.size ≤ s'.heap.objs.size → R r s') s) : codeAny M A c R s :=
  fun Γ p hc hΓ => by obtain ⟨r, s', hr, hR⟩ := h Γ p hc hΓ; exact ⟨r, s', hr, hR (returns_size hr)⟩

abbrev PR : Program := PySem.Challenge.rw_pq0746_01.row.prog
abbrev MO (w : World) : Model := model PR w

inductive AVal where
  | none | bool (b : Bool) | int (i : Int) | str (s : Str) | ref (i : Nat) | val (v : Value)

inductive AObj where
  | list (vs : List AVal)
  | lst (vs : List AVal)
  | tup (vs : List AVal)
  | dict (kvs : List (Str × AVal))
  | inst (C : Addr) (d : Nat)
  | ns (kvs : List (Str × AVal))

def VR (ρ : List Addr) : AVal → Value → Prop
  | .none, u => u = .none
  | .bool b, u => u = .bool b
  | .int i, u => ∃ t, u = .int i t
  | .str x, u => ∃ t, u = .str x t
  | .ref i, u => ∃ a, ρ[i]? = some a ∧ u = .ref a
  | .val v, u => u = v

def VRs (ρ : List Addr) : List AVal → List Value → Prop
  | [], [] => True
  | v :: vs, u :: us => VR ρ v u ∧ VRs ρ vs us
  | _, _ => False

def KRs (ρ : List Addr) : List (Str × AVal) → List (Str × Value) → Prop
  | [], [] => True
  | v :: vs, u :: us => (v.1 = u.1 ∧ VR ρ v.2 u.2) ∧ KRs ρ vs us
  | _, _ => False

/-- the entries of an object's own dict -/
def ER (ρ : List Addr) : List (Str × AVal) → List DictEntry → Prop
  | [], [] => True
  | v :: vs, e :: es => ((∃ t, e.key = .str v.1 t) ∧ VR ρ v.2 e.val) ∧ ER ρ vs es
  | _, _ => False

def OR (w : World) (ρ : List Addr) (h : Heap) (a : Addr) : AObj → Prop
  | .list vs => ∃ us n, IsL h a (List.toArray us) n ∧ VRs ρ vs us
  | .lst vs => ∃ us, h.IsList a (List.toArray us) ∧ VRs ρ vs us
  | .tup vs => ∃ us, h.IsTuple a (List.toArray us) ∧ VRs ρ vs us
  | .dict kvs => ∃ kus, h.DictOf (strKind PR w) a kus ∧ KRs ρ kvs kus
  | .inst C d => ∃ dx, ρ[d]? = some dx ∧ h.get? a = some (instObj C dx)
  | .ns kvs => ∃ es n, h.get? a = some (dictOf es n) ∧ ER ρ kvs es

theorem VR.mono {ρ l : List Addr} {v : AVal} {u : Value} (h : VR ρ v u) : VR (ρ ++ l) v u := by
  cases v with
  | ref i =>
    obtain ⟨a, e, h2⟩ := h
    exact ⟨a, by rw [List.getElem?_append_left (List.getElem?_eq_some_iff.mp e).1]; exact e, h2⟩
  | _ => exact h
theorem VRs.ind {ρ : List Addr} {P : List AVal → List Value → Prop} (h0 : P [] []) (h1 : ∀ v vs u us, VR ρ v u → VRs ρ vs us → P vs us → P (v :: vs) (u :: us)) : ∀ {vs : List AVal} {us : List Value}, VRs ρ vs us → P vs us := by
  intro vs
  induction vs with
  | nil => intro us h; cases us with | nil => exact h0 | cons _ _ => exact h.elim
  | cons v vs ih => intro us h; cases us with | nil => exact h.elim | cons u us => exact h1 _ _ _ _ h.1 h.2 (ih h.2)
theorem KRs.ind {ρ : List Addr} {P : List (Str × AVal) → List (Str × Value) → Prop} (h0 : P [] []) (h1 : ∀ v vs u us, v.1 = u.1 → VR ρ v.2 u.2 → KRs ρ vs us → P vs us → P (v :: vs) (u :: us)) : ∀ {vs : List (Str × AVal)} {us : List (Str × Value)}, KRs ρ vs us → P vs us := by
  intro vs
  induction vs with
  | nil => intro us h; cases us with | nil => exact h0 | cons _ _ => exact h.elim
  | cons v vs ih => intro us h; cases us with | nil => exact h.elim | cons u us => exact h1 _ _ _ _ h.1.1 h.1.2 h.2 (ih h.2)
theorem VRs.mono {ρ l : List Addr} {vs : List AVal} {us : List Value} (h : VRs ρ vs us) : VRs (ρ ++ l) vs us :=
  h.ind (P := VRs (ρ ++ l)) trivial fun _ _ _ _ a _ ih => ⟨a.mono, ih⟩
theorem KRs.mono {ρ l : List Addr} {vs : List (Str × AVal)} {us : List (Str × Value)} (h : KRs ρ vs us) : KRs (ρ ++ l) vs us :=
  h.ind (P := KRs (ρ ++ l)) trivial fun _ _ _ _ e a _ ih => ⟨⟨e, a.mono⟩, ih⟩
theorem ER.ind {ρ : List Addr} {P : List (Str × AVal) → List DictEntry → Prop} (h0 : P [] []) (h1 : ∀ p vs e es t, e.key = .str p.1 t → VR ρ p.2 e.val → ER ρ vs es → P vs es → P (p :: vs) (e :: es)) : ∀ {vs : List (Str × AVal)} {es : List DictEntry}, ER ρ vs es → P vs es := by
  intro vs
  induction vs with
  | nil => intro es h; cases es with | nil => exact h0 | cons _ _ => exact h.elim
  | cons p vs ih => intro es h; cases es with | nil => exact h.elim | cons e es => obtain ⟨⟨⟨t, ek⟩, hv⟩, b⟩ := h; exact h1 _ _ _ _ t ek hv b (ih b)
theorem ER.mono {ρ l : List Addr} {vs : List (Str × AVal)} {us : List DictEntry} (h : ER ρ vs us) : ER (ρ ++ l) vs us :=
  h.ind (P := ER (ρ ++ l)) trivial fun _ _ _ _ t ek hv _ ih => ⟨⟨⟨t, ek⟩, hv.mono⟩, ih⟩
theorem ER.length {ρ : List Addr} {vs : List (Str × AVal)} {us : List DictEntry} (h : ER ρ vs us) : us.length = vs.length :=
  h.ind (P := fun vs us => us.length = vs.length) rfl fun _ _ _ _ _ _ _ _ ih => congrArg (· + 1) ih
theorem VRs.length {ρ : List Addr} {vs : List AVal} {us : List Value} (h : VRs ρ vs us) : us.length = vs.length :=
  h.ind (P := fun vs us => us.length = vs.length) rfl fun _ _ _ _ _ _ ih => congrArg (· + 1) ih
theorem KRs.length {ρ : List Addr} {vs : List (Str × AVal)} {us : List (Str × Value)} (h : KRs ρ vs us) : us.length = vs.length :=
  h.ind (P := fun vs us => us.length = vs.length) rfl fun _ _ _ _ _ _ _ ih => congrArg (· + 1) ih
theorem VRs.get {ρ : List Addr} {vs : List AVal} {us : List Value} {i : Nat} {v : AVal} (h : VRs ρ vs us) (hv : vs[i]? = some v) : ∃ u, us[i]? = some u ∧ VR ρ v u := by
  refine h.ind (P := fun vs us => ∀ i : Nat, vs[i]? = some v → ∃ u, us[i]? = some u ∧ VR ρ v u) (fun i h => by cases h) (fun x vs u us a _ ih i h => ?_) i hv
  cases i with
  | zero => exact ⟨u, rfl, (Option.some.inj h : x = v) ▸ a⟩
  | succ i => exact ih i h
theorem VRs.append {ρ : List Addr} {vs : List AVal} {us : List Value} {vs2 : List AVal} {us2 : List Value} (h : VRs ρ vs us) (h2 : VRs ρ vs2 us2) : VRs ρ (vs ++ vs2) (us ++ us2) :=
  h.ind (P := fun vs us => VRs ρ (vs ++ vs2) (us ++ us2)) h2 fun _ _ _ _ a _ ih => ⟨a, ih⟩
theorem VRs.one {ρ : List Addr} {v : AVal} {u : Value} (h : VR ρ v u) : VRs ρ [v] [u] := ⟨h, trivial⟩
theorem VRs.reverse {ρ : List Addr} {vs : List AVal} {us : List Value} (h : VRs ρ vs us) : VRs ρ vs.reverse us.reverse :=
  h.ind (P := fun vs us => VRs ρ vs.reverse us.reverse) trivial fun _ _ _ _ a _ ih => by
    rw [List.reverse_cons, List.reverse_cons]; exact ih.append (VRs.one a)
theorem VRs.take {ρ : List Addr} {vs : List AVal} {us : List Value} (n : Nat) (h : VRs ρ vs us) : VRs ρ (vs.take n) (us.take n) :=
  h.ind (P := fun vs us => ∀ n : Nat, VRs ρ (vs.take n) (us.take n)) (fun n => by cases n <;> trivial) (fun _ _ _ _ a _ ih n => by cases n with | zero => trivial | succ n => exact ⟨a, ih n⟩) n
theorem VRs.set {ρ : List Addr} {vs : List AVal} {us : List Value} {v : AVal} {u : Value} (i : Nat) (h : VRs ρ vs us) (hv : VR ρ v u) : VRs ρ (vs.set i v) (us.set i u) := by
  induction vs generalizing us i with
  | nil => cases us with | nil => trivial | cons _ _ => exact h.elim
  | cons a vs ih =>
    cases us with
    | nil => exact h.elim
    | cons b us => cases i with | zero => exact ⟨hv, h.2⟩ | succ n => exact ⟨h.1, ih n h.2⟩
theorem VRs.inv_nil {ρ : List Addr} {us : List Value} (h : VRs ρ [] us) : us = [] := by cases us with | nil => rfl | cons _ _ => exact h.elim
theorem VRs.inv_cons {ρ : List Addr} {v : AVal} {vs : List AVal} {us : List Value} (h : VRs ρ (v :: vs) us) : ∃ u us', us = u :: us' ∧ VR ρ v u ∧ VRs ρ vs us' := by
  cases us with | nil => exact h.elim | cons u us' => exact ⟨u, us', rfl, h⟩

/-- the value at a key, abstractly -/
def aget (kvs : List (Str × AVal)) (k : Str) : Option AVal := (kvs.find? fun kv => kv.1 = k).map (·.2)
def aput (kvs : List (Str × AVal)) (k : Str) (v : AVal) : List (Str × AVal) :=
  if kvs.any (fun kv => kv.1 = k) then kvs.map (fun kv => if kv.1 = k then (kv.1, v) else kv) else kvs ++ [(k, v)]
theorem KRs.any {ρ : List Addr} {k : Str} {vs : List (Str × AVal)} {us : List (Str × Value)} (h : KRs ρ vs us) : vs.any (fun kv => kv.1 = k) = us.any (fun kv => kv.1 = k) :=
  h.ind (P := fun vs us => vs.any (fun kv => kv.1 = k) = us.any (fun kv => kv.1 = k)) rfl fun _ _ _ _ e _ _ ih => by simp only [List.any_cons, e, ih]
theorem KRs.find {ρ : List Addr} {k : Str} {vs : List (Str × AVal)} {us : List (Str × Value)} (h : KRs ρ vs us) :
    (match aget vs k with | some v => ∃ u, valueAt us k = some u ∧ VR ρ v u | none => valueAt us k = none) := by
  refine h.ind (P := fun vs us => match aget vs k with | some v => ∃ u, valueAt us k = some u ∧ VR ρ v u | none => valueAt us k = none) rfl fun x vs y us e a _ ih => ?_
  simp only [aget, valueAt, List.find?_cons] at ih ⊢
  by_cases h : x.1 = k
  · have h' : y.1 = k := e ▸ h
    simp only [h, h', decide_true, Option.map_some]
    exact ⟨_, rfl, a⟩
  · have h' : ¬ y.1 = k := e ▸ h
    simp only [h, h', decide_false]
    exact ih
theorem KRs.append {ρ : List Addr} {vs : List (Str × AVal)} {us : List (Str × Value)} {vs2 : List (Str × AVal)} {us2 : List (Str × Value)} (h : KRs ρ vs us) (h2 : KRs ρ vs2 us2) : KRs ρ (vs ++ vs2) (us ++ us2) :=
  h.ind (P := fun vs us => KRs ρ (vs ++ vs2) (us ++ us2)) h2 fun _ _ _ _ e a _ ih => ⟨⟨e, a⟩, ih⟩
theorem KRs.mapPut {ρ : List Addr} {k : Str} {v : AVal} {u : Value} (h : VR ρ v u) {vs : List (Str × AVal)} {us : List (Str × Value)} (hk : KRs ρ vs us) :
    KRs ρ (vs.map (fun kv => if kv.1 = k then (kv.1, v) else kv)) (us.map (fun kv => if kv.1 = k then (kv.1, u) else kv)) := by
  refine hk.ind (P := fun vs us => KRs ρ (vs.map (fun kv : Str × AVal => if kv.1 = k then (kv.1, v) else kv)) (us.map (fun kv : Str × Value => if kv.1 = k then (kv.1, u) else kv))) trivial fun x _ y _ e a _ ih => ⟨?_, ih⟩
  by_cases hk : x.1 = k
  · have hk' : y.1 = k := e ▸ hk
    simp only [hk, hk', if_true]; exact ⟨trivial, h⟩
  · have hk' : ¬ y.1 = k := e ▸ hk
    simp only [hk, hk', if_false]; exact ⟨e, a⟩
theorem KRs.put {ρ : List Addr} {k : Str} {v : AVal} {u : Value} {vs : List (Str × AVal)} {us : List (Str × Value)} (h : KRs ρ vs us) (hv : VR ρ v u) : KRs ρ (aput vs k v) (stored us k u) := by
  unfold aput stored
  rw [h.any]
  split
  · exact h.mapPut hv
  · exact h.append ⟨⟨rfl, hv⟩, trivial⟩

theorem OR.keep {w : World} {ρ : List Addr} {h h' : Heap} {a : Addr} {o : AObj} (x : OR w ρ h a o) (hk : ∀ ob, h.get? a = some ob → h'.get? a = some ob) : OR w ρ h' a o := by
  cases o with
  | list vs => obtain ⟨us, n, h1, h2⟩ := x; exact ⟨us, n, hk _ h1, h2⟩
  | lst vs => obtain ⟨us, ⟨ob, h1, r⟩, h2⟩ := x; exact ⟨us, ⟨ob, hk _ h1, r⟩, h2⟩
  | tup vs => obtain ⟨us, ⟨ob, h1, r⟩, h2⟩ := x; exact ⟨us, ⟨ob, hk _ h1, r⟩, h2⟩
  | dict kvs => obtain ⟨kus, ⟨ob, es, ep, h1, r⟩, h2⟩ := x; exact ⟨kus, ⟨ob, es, ep, hk _ h1, r⟩, h2⟩
  | inst C d => obtain ⟨dx, h1, h2⟩ := x; exact ⟨dx, h1, hk _ h2⟩
  | ns kvs => obtain ⟨es, n, h1, h2⟩ := x; exact ⟨es, n, hk _ h1, h2⟩
theorem OR.mono {w : World} {ρ l : List Addr} {h : Heap} {a : Addr} {o : AObj} (x : OR w ρ h a o) : OR w (ρ ++ l) h a o := by
  cases o with
  | list vs => obtain ⟨us, n, h1, h2⟩ := x; exact ⟨us, n, h1, h2.mono⟩
  | lst vs => obtain ⟨us, h1, h2⟩ := x; exact ⟨us, h1, h2.mono⟩
  | tup vs => obtain ⟨us, h1, h2⟩ := x; exact ⟨us, h1, h2.mono⟩
  | dict kvs => obtain ⟨kus, h1, h2⟩ := x; exact ⟨kus, h1, h2.mono⟩
  | inst C d =>
    obtain ⟨dx, h1, h2⟩ := x
    exact ⟨dx, by rw [List.getElem?_append_left (List.getElem?_eq_some_iff.mp h1).1]; exact h1, h2⟩
  | ns kvs => obtain ⟨es, n, h1, h2⟩ := x; exact ⟨es, n, h1, h2.mono⟩
theorem OR.there {w : World} {ρ : List Addr} {h : Heap} {a : Addr} {o : AObj} (x : OR w ρ h a o) : ∃ ob, h.get? a = some ob := by
  cases o with
  | list vs => obtain ⟨us, n, h1, h2⟩ := x; exact ⟨_, h1⟩
  | lst vs => obtain ⟨us, ⟨ob, h1, r⟩, h2⟩ := x; exact ⟨_, h1⟩
  | tup vs => obtain ⟨us, ⟨ob, h1, r⟩, h2⟩ := x; exact ⟨_, h1⟩
  | dict kvs => obtain ⟨kus, ⟨ob, es, ep, h1, r⟩, h2⟩ := x; exact ⟨_, h1⟩
  | inst C d => obtain ⟨dx, h1, h2⟩ := x; exact ⟨_, h2⟩
  | ns kvs => obtain ⟨es, n, h1, h2⟩ := x; exact ⟨_, h1⟩

/-- the abstract heap stands in the heap at the addresses ρ -/
structure Sim (w : World) (b₀ : Heap) (ρ : List Addr) (H : List AObj) (h : Heap) : Prop where
  len : ρ.length = H.length
  nodup : ρ.Nodup
  objs : ∀ (i : Nat) (o : AObj), H[i]? = some o → ∃ a, ρ[i]? = some a ∧ OR w ρ h a o
  fresh : ∀ a ∈ ρ, b₀.objs.size ≤ a
  stat : ∀ b o, b₀.get? b = some o → h.get? b = some o
  base : b₀.objs.size ≤ h.objs.size

def owns (env : Env) : List Addr := env.locals :: env.cells.map (·.2)

structure Stp (own ρ ρ' : List Addr) (s s' : Shared) : Prop where
  ext : ∃ l, ρ' = ρ ++ l ∧ ∀ a ∈ l, s.heap.objs.size ≤ a
  size : s.heap.objs.size ≤ s'.heap.objs.size
  keep : ∀ b o, b ∉ own → b ∉ ρ → s.heap.get? b = some o → s'.heap.get? b = some o
  same : s' = { s with heap := s'.heap, toks := s'.toks }

theorem Stp.refl {own ρ : List Addr} {s : Shared} : Stp own ρ ρ s s := ⟨⟨[], by simp, by simp⟩, Nat.le_refl _, fun _ _ _ _ e => e, rfl⟩
theorem Stp.toks {own ρ : List Addr} {s : Shared} (t : Nat) : Stp own ρ ρ s { s with toks := t } := ⟨⟨[], by simp, by simp⟩, Nat.le_refl _, fun _ _ _ _ e => e, rfl⟩
theorem Stp.trans {own ρ ρ' ρ'' : List Addr} {s s' s'' : Shared} (x : Stp own ρ ρ' s s') (y : Stp own ρ' ρ'' s' s'') : Stp own ρ ρ'' s s'' := by
  obtain ⟨l, rfl, hl⟩ := x.ext
  obtain ⟨l', rfl, hl'⟩ := y.ext
  refine ⟨⟨l ++ l', by simp, fun a ha => ?_⟩, Nat.le_trans x.size y.size, fun b o h1 h2 e => ?_, ?_⟩
  · rcases List.mem_append.mp ha with h | h
    · exact hl a h
    · exact Nat.le_trans x.size (hl' a h)
  · refine y.keep b o h1 (fun hb => ?_) (x.keep b o h1 h2 e)
    rcases List.mem_append.mp hb with h | h
    · exact h2 h
    · exact Nat.lt_irrefl _ (Nat.lt_of_lt_of_le (Heap.lt_size e) (hl b h))
  · rw [y.same, x.same]
theorem Stp.weaken {own own' ρ ρ' : List Addr} {s s' : Shared} (x : Stp own ρ ρ' s s') (h : ∀ a ∈ own, a ∈ own') : Stp own' ρ ρ' s s' :=
  ⟨x.ext, x.size, fun b o h1 h2 e => x.keep b o (fun q => h1 (h b q)) h2 e, x.same⟩
theorem Stp.nil {own ρ ρ' : List Addr} {s s' : Shared} (x : Stp [] ρ ρ' s s') : Stp own ρ ρ' s s' := x.weaken (by simp)
theorem Stp.vr {own ρ ρ' : List Addr} {s s' : Shared} (x : Stp own ρ ρ' s s') {v : AVal} {u : Value} (h : VR ρ v u) : VR ρ' v u := by obtain ⟨l, rfl, _⟩ := x.ext; exact h.mono
theorem Stp.vrs {own ρ ρ' : List Addr} {s s' : Shared} (x : Stp own ρ ρ' s s') {v : List AVal} {u : List Value} (h : VRs ρ v u) : VRs ρ' v u := by obtain ⟨l, rfl, _⟩ := x.ext; exact h.mono

/-- what must stand in a frame -/
structure Loc (b₀ : Heap) (ρ : List Addr) (env : Env) (loc : Str → Option AVal) (h : Heap) : Prop where
  ns : ∃ m, h.Ns env.locals m ∧ ∀ x v, loc x = some v → env.kindOf x = some .local → ∃ u, m x = some u ∧ VR ρ v u
  cells : ∀ x c, env.cells.lookup x = some c → ∃ ov, h.IsCell c ov ∧ ∀ v, loc x = some v → ∃ u, ov = some u ∧ VR ρ v u
  off : ∀ a ∈ owns env, a ∉ ρ ∧ b₀.objs.size ≤ a
  apart : (owns env).Nodup
  there : ∀ a ∈ owns env, a < h.objs.size

theorem Loc.step {b₀ : Heap} {ρ ρ' : List Addr} {env : Env} {loc : Str → Option AVal} {s s' : Shared} (x : Loc b₀ ρ env loc s.heap) (y : Stp [] ρ ρ' s s') : Loc b₀ ρ' env loc s'.heap := by
  obtain ⟨m, hn, hm⟩ := x.ns
  have hL : env.locals ∈ owns env := List.mem_cons_self
  refine ⟨⟨m, ?_, fun z v h1 h2 => ?_⟩, fun z c hc => ?_, fun a ha => ⟨?_, (x.off a ha).2⟩, x.apart, fun a ha => Nat.lt_of_lt_of_le (x.there a ha) y.size⟩
  · obtain ⟨o, es, ep, ho, r⟩ := hn
    exact ⟨o, es, ep, y.keep _ _ (by simp) (x.off _ hL).1 ho, r⟩
  · obtain ⟨u, h3, h4⟩ := hm z v h1 h2
    exact ⟨u, h3, y.vr h4⟩
  · obtain ⟨ov, ⟨o, ho, hd⟩, h2⟩ := x.cells z c hc
    have hcm : c ∈ owns env := List.mem_cons_of_mem _ (List.mem_map.mpr ⟨(z, c), mem_of_lookup hc, rfl⟩)
    refine ⟨ov, ⟨o, y.keep _ _ (by simp) (x.off _ hcm).1 ho, hd⟩, fun v hv => ?_⟩
    obtain ⟨u, h3, h4⟩ := h2 v hv
    exact ⟨u, h3, y.vr h4⟩
  · obtain ⟨l, rfl, hl⟩ := y.ext
    rw [List.mem_append]
    rintro (h | h)
    · exact (x.off a ha).1 h
    · exact Nat.lt_irrefl _ (Nat.lt_of_lt_of_le (x.there a ha) (hl a h))

structure Room (n : Nat) (A : Around) : Prop where
  handled : A.handled = none
  depth : A.depth + n < recursionLimit
  units : A.units + 16 * n < cLine
theorem Room.mono {n m : Nat} {A : Around} (h : Room m A) (hn : n ≤ m) : Room n A := ⟨h.handled, by have := h.depth; omega, by have := h.units; omega⟩
theorem Room.in1 {n : Nat} {A : Around} (h : Room (n + 1) A) : Room n A.in1 := ⟨h.handled, by have := h.depth; simp only [Around.in1_depth]; exact Nat.le_of_lt (by assumption), by have := h.units; simp only [Around.in1_units]; omega⟩
theorem Room.deeper {n : Nat} {A : Around} {env : Env} (h : Room (n + 1) A) : Room n (A.deeper env) :=
  ⟨h.handled, by have := h.depth; rw [depth_deeper]; exact om6 (by assumption) (by first | exact Nat.le_refl _ | decide), by have := h.units; simp only [Around.deeper_units]; omega⟩

structure Cx where
  sc : Scope
  cn : List Str

structure EnvOK (cx : Cx) (env : Env) : Prop where
  scope : env.scope = cx.sc
  kind : cx.sc.kind = .function
  globals : env.globals = mainGlobals
  builtins : env.builtins = builtinsNs
  cells : env.cells.map (·.1) = cx.cn
  frame : env.frame.isSome = true

structure ASt where
  H : List AObj
  loc : Str → Option AVal

structure Bel (w : World) (b₀ : Heap) (env : Env) (st : ASt) (ρ : List Addr) (s : Shared) : Prop where
  sim : Sim w b₀ ρ st.H s.heap
  loc : Loc b₀ ρ env st.loc s.heap

inductive AFlow where
  | next | brk | cont | ret (v : AVal)
def FR (ρ : List Addr) : AFlow → Flow → Prop
  | .next, f => f = .next
  | .brk, f => f = .brk
  | .cont, f => f = .cont
  | .ret v, f => ∃ u, f = .ret u ∧ VR ρ v u

section
variable (w : World) (b₀ : Heap)

/-- a tree in a frame: from the state st it ends in st' and hands on what R says of b -/
def Act {α β : Type} (n : Nat) (cx : Cx) (t : Env → Sem α) (R : List Addr → β → α → Prop) (st : ASt) (b : β) (st' : ASt) : Prop :=
  ∀ (A : Around) (env : Env) (E : Value → Shared → Prop) (s : Shared) (ρ : List Addr) (Q : α → Shared → Prop), Room n A → EnvOK cx env → Bel w b₀ env st ρ s →
    (∀ s' ρ' a, Stp (owns env) ρ ρ' s s' → Bel w b₀ env st' ρ' s' → R ρ' b a → Q a s') → wpAny (MO w) A (t env) Q E s

def Ev (n : Nat) (cx : Cx) (e : Expr) (st : ASt) (v : AVal) (st' : ASt) : Prop := Act w b₀ n cx (eval e) VR st v st'
def Tr (n : Nat) (cx : Cx) (e : Expr) (st : ASt) (b : Bool) (st' : ASt) : Prop := Act w b₀ n cx (fun env => PySem.isTrue e env (eval e env)) (fun _ b a => a = b) st b st'
def Ex (n : Nat) (cx : Cx) (t : Stmt) (st : ASt) (f : AFlow) (st' : ASt) : Prop := Act w b₀ n cx (exec t) FR st f st'
def Exs (n : Nat) (cx : Cx) (t : List Stmt) (st : ASt) (f : AFlow) (st' : ASt) : Prop := Act w b₀ n cx (execs t) FR st f st'

/-- an operation upon values, outside any frame -/
def Op1 {α β : Type} (n : Nat) (t : Value → Sem α) (R : List Addr → β → α → Prop) (a : AVal) (H : List AObj) (b : β) (H' : List AObj) : Prop :=
  ∀ (A : Around) (E : Value → Shared → Prop) (s : Shared) (ρ : List Addr) (u : Value) (Q : α → Shared → Prop), Room n A → Sim w b₀ ρ H s.heap → VR ρ a u →
    (∀ s' ρ' r, Stp [] ρ ρ' s s' → Sim w b₀ ρ' H' s'.heap → R ρ' b r → Q r s') → wpAny (MO w) A (t u) Q E s
def Op2 {α β : Type} (n : Nat) (t : Value → Value → Sem α) (R : List Addr → β → α → Prop) (a a2 : AVal) (H : List AObj) (b : β) (H' : List AObj) : Prop :=
  ∀ (A : Around) (E : Value → Shared → Prop) (s : Shared) (ρ : List Addr) (u u2 : Value) (Q : α → Shared → Prop), Room n A → Sim w b₀ ρ H s.heap → VR ρ a u → VR ρ a2 u2 →
    (∀ s' ρ' r, Stp [] ρ ρ' s s' → Sim w b₀ ρ' H' s'.heap → R ρ' b r → Q r s') → wpAny (MO w) A (t u u2) Q E s
def Op3 {α β : Type} (n : Nat) (t : Value → Value → Value → Sem α) (R : List Addr → β → α → Prop) (a a2 a3 : AVal) (H : List AObj) (b : β) (H' : List AObj) : Prop :=
  ∀ (A : Around) (E : Value → Shared → Prop) (s : Shared) (ρ : List Addr) (u u2 u3 : Value) (Q : α → Shared → Prop), Room n A → Sim w b₀ ρ H s.heap → VR ρ a u → VR ρ a2 u2 → VR ρ a3 u3 →
    (∀ s' ρ' r, Stp [] ρ ρ' s s' → Sim w b₀ ρ' H' s'.heap → R ρ' b r → Q r s') → wpAny (MO w) A (t u u2 u3) Q E s
/-- a call upon values -/
def Cal (n : Nat) (f : AVal) (as : List AVal) (H : List AObj) (v : AVal) (H' : List AObj) : Prop :=
  ∀ (A : Around) (E : Value → Shared → Prop) (s : Shared) (ρ : List Addr) (fu : Value) (us : List Value) (Q : Value → Shared → Prop), Room n A → Sim w b₀ ρ H s.heap → VR ρ f fu → VRs ρ as us →
    (∀ s' ρ' r, Stp [] ρ ρ' s s' → Sim w b₀ ρ' H' s'.heap → VR ρ' v r → Q r s') → wpAny (MO w) A (call fu us) Q E s
end

section
variable {w : World} {b₀ : Heap}

theorem Bel.step {env : Env} {st : ASt} {H' : List AObj} {ρ ρ' : List Addr} {s s' : Shared} (x : Bel w b₀ env st ρ s) (y : Stp [] ρ ρ' s s') (h : Sim w b₀ ρ' H' s'.heap) : Bel w b₀ env { st with H := H' } ρ' s' := ⟨h, x.loc.step y⟩
theorem Bel.toks {env : Env} {st : ASt} {ρ : List Addr} {s : Shared} (x : Bel w b₀ env st ρ s) (t : Nat) : Bel w b₀ env st ρ { s with toks := t } := ⟨x.sim, x.loc⟩

/-- a change of one object -/
theorem Sim.upd {ρ : List Addr} {H : List AObj} {h h' : Heap} {i : Nat} {a : Addr} {o : AObj} (S : Sim w b₀ ρ H h) (ha : ρ[i]? = some a) (hs : Heap.SameBut a h h')
    (ho : OR w ρ h' a o) : Sim w b₀ ρ (H.set i o) h' := by
  have ham : a ∈ ρ := List.mem_of_getElem? ha
  have hk : ∀ b ob, b ≠ a → h.get? b = some ob → h'.get? b = some ob := fun b ob hb e => (hs.2 b hb).trans e
  refine ⟨by rw [S.len, List.length_set], S.nodup, fun j ob hj => ?_, S.fresh, fun b ob e => hk b ob ?_ (S.stat b ob e), by rw [hs.1]; exact S.base⟩
  · by_cases hji : i = j
    · subst hji
      have hlt : i < H.length := by rw [← S.len]; exact (List.getElem?_eq_some_iff.mp ha).1
      rw [List.getElem?_set_self hlt] at hj
      cases hj
      exact ⟨a, ha, ho⟩
    · rw [List.getElem?_set_ne hji] at hj
      obtain ⟨b, hb, hob⟩ := S.objs j ob hj
      refine ⟨b, hb, hob.keep fun o' e => hk b o' ?_ e⟩
      rintro rfl
      exact hji ((List.getElem?_inj (List.getElem?_eq_some_iff.mp ha).1 S.nodup).mp (ha.trans hb.symm))
  · rintro rfl
    exact Nat.lt_irrefl _ (Nat.lt_of_lt_of_le (Heap.lt_size e) (S.fresh _ ham))

theorem Sim.lt {ρ : List Addr} {H : List AObj} {h : Heap} (S : Sim w b₀ ρ H h) {a : Addr} (ha : a ∈ ρ) : a < h.objs.size := by
  obtain ⟨i, hi, rfl⟩ := List.getElem_of_mem ha
  have hi' : i < H.length := S.len ▸ hi
  obtain ⟨b, hb, hob⟩ := S.objs i H[i] (List.getElem?_eq_getElem hi')
  obtain ⟨ob, e⟩ := hob.there
  have : ρ[i] = b := by rw [List.getElem?_eq_getElem hi] at hb; exact Option.some.inj hb
  rw [this]; exact Heap.lt_size e

theorem Sim.ref {ρ : List Addr} {H : List AObj} {h : Heap} (S : Sim w b₀ ρ H h) {i : Nat} {o : AObj} {u : Value} (hu : VR ρ (.ref i) u) (ho : H[i]? = some o) : ∃ a, u = .ref a ∧ ρ[i]? = some a ∧ OR w ρ h a o := by
  obtain ⟨a, ha, rfl⟩ := hu
  obtain ⟨b, hb, hob⟩ := S.objs i o ho
  rw [ha] at hb; cases hb
  exact ⟨a, rfl, ha, hob⟩

theorem Sim.junk {ρ : List Addr} {H : List AObj} {h h' : Heap} (S : Sim w b₀ ρ H h) (hk : ∀ b ob, h.get? b = some ob → h'.get? b = some ob) (hz : h.objs.size ≤ h'.objs.size) : Sim w b₀ ρ H h' :=
  ⟨S.len, S.nodup, fun i o hi => let ⟨a, ha, ho⟩ := S.objs i o hi; ⟨a, ha, ho.keep fun ob e => hk a ob e⟩, S.fresh, fun b o e => hk b o (S.stat b o e), Nat.le_trans S.base hz⟩

/-- a new object -/
theorem Sim.alloc {ρ : List Addr} {H : List AObj} {h h' : Heap} {a : Addr} {o : AObj} (S : Sim w b₀ ρ H h) (ha : h.objs.size ≤ a) (hk : ∀ b ob, h.get? b = some ob → h'.get? b = some ob) (hz : h.objs.size ≤ h'.objs.size)
    (ho : OR w (ρ ++ [a]) h' a o) : Sim w b₀ (ρ ++ [a]) (H ++ [o]) h' := by
  refine ⟨by simp [S.len], ?_, fun j ob hj => ?_, fun b hb => ?_, fun b ob e => hk b ob (S.stat b ob e), Nat.le_trans S.base hz⟩
  · rw [List.nodup_append]
    exact ⟨S.nodup, by simp, fun x hx y hy => by rw [List.mem_singleton.mp hy]; exact Nat.ne_of_lt (Nat.lt_of_lt_of_le (S.lt hx) ha)⟩
  · rcases Nat.lt_or_ge j H.length with hlt' | hge
    · rw [List.getElem?_append_left hlt'] at hj
      obtain ⟨b, hb, hob⟩ := S.objs j ob hj
      refine ⟨b, ?_, (hob.keep fun o' e => hk b o' e).mono⟩
      rw [List.getElem?_append_left (S.len ▸ hlt')]; exact hb
    · rw [List.getElem?_append_right hge] at hj
      have hj0 : j - H.length = 0 := by
        rcases Nat.eq_zero_or_pos (j - H.length) with h | h
        · exact h
        · rw [List.getElem?_eq_none (by simp; assumption)] at hj; cases hj
      rw [hj0] at hj
      cases (Option.some.inj hj : o = ob)
      refine ⟨a, ?_, ho⟩
      rw [List.getElem?_append_right (by rw [S.len]; exact hge), S.len, hj0]; rfl
  · rcases List.mem_append.mp hb with h1 | h1
    · exact S.fresh b h1
    · rw [List.mem_singleton.mp h1]; exact Nat.le_trans S.base ha

theorem upd_step {ρ : List Addr} {H : List AObj} {s : Shared} {h' : Heap} {i : Nat} {a : Addr} {o : AObj} (S : Sim w b₀ ρ H s.heap) (ha : ρ[i]? = some a) (hs : Heap.SameBut a s.heap h') (ho : OR w ρ h' a o) (t : Nat) :
    Stp [] ρ ρ s { s with heap := h', toks := t } ∧ Sim w b₀ ρ (H.set i o) h' :=
  ⟨⟨⟨[], by simp, by simp⟩, Nat.le_of_eq hs.1.symm, fun b ob _ hb e => (hs.2 b (fun q => hb (q ▸ List.mem_of_getElem? ha))).trans e, rfl⟩, S.upd ha hs ho⟩
theorem junk_step {ρ : List Addr} {H : List AObj} {s : Shared} {h' : Heap} (S : Sim w b₀ ρ H s.heap) (hk : ∀ b ob, s.heap.get? b = some ob → h'.get? b = some ob) (hz : s.heap.objs.size ≤ h'.objs.size) (t : Nat) :
    Stp [] ρ ρ s { s with heap := h', toks := t } ∧ Sim w b₀ ρ H h' :=
  ⟨⟨⟨[], by simp, by simp⟩, hz, fun b ob _ _ e => hk b ob e, rfl⟩, S.junk hk hz⟩
theorem alloc_step {ρ : List Addr} {H : List AObj} {s : Shared} {h' : Heap} {a : Addr} {o : AObj} (S : Sim w b₀ ρ H s.heap) (ha : s.heap.objs.size ≤ a) (hk : ∀ b ob, s.heap.get? b = some ob → h'.get? b = some ob) (hz : s.heap.objs.size ≤ h'.objs.size)
    (ho : OR w (ρ ++ [a]) h' a o) (t : Nat) : Stp [] ρ (ρ ++ [a]) s { s with heap := h', toks := t } ∧ Sim w b₀ (ρ ++ [a]) (H ++ [o]) h' :=
  ⟨⟨⟨[a], rfl, fun b hb => by rw [List.mem_singleton.mp hb]; exact ha⟩, hz, fun b ob _ _ e => hk b ob e, rfl⟩, S.alloc ha hk hz ho⟩
/-- a pushed object -/
theorem push_step {ρ : List Addr} {H : List AObj} {s : Shared} {ob : Obj} {o : AObj} (S : Sim w b₀ ρ H s.heap) (ho : OR w (ρ ++ [s.heap.objs.size]) (s.heap.push ob) s.heap.objs.size o) (t : Nat) :
    Stp [] ρ (ρ ++ [s.heap.objs.size]) s { s with heap := s.heap.push ob, toks := t } ∧ Sim w b₀ (ρ ++ [s.heap.objs.size]) (H ++ [o]) (s.heap.push ob) :=
  alloc_step S (Nat.le_refl _) (fun _ _ e => Heap.get?_push_of_some _ e) (by rw [Heap.size_push]; exact Nat.le_succ _) ho t
theorem vr_new {ρ : List Addr} {H : List AObj} {h : Heap} {a : Addr} (S : Sim w b₀ ρ H h) : VR (ρ ++ [a]) (.ref H.length) (.ref a) :=
  ⟨a, by rw [← S.len]; simp, rfl⟩
theorem Sim.notMods {ρ : List Addr} {H : List AObj} {h : Heap} (S : Sim w b₀ ρ H h) (hb : sysModules < b₀.objs.size) {i : Nat} {a : Addr} (ha : ρ[i]? = some a) : (a == sysModules) = false := by
  have h1 := S.fresh a (List.mem_of_getElem? ha)
  have : a ≠ sysModules := by intro e; rw [e] at h1; exact Nat.lt_irrefl _ (Nat.lt_of_lt_of_le hb h1)
  exact beq_false_of_ne this
end

structure Glo (K : Frag) (b₀ : Heap) : Prop where
  inn : K.In b₀
  g : ∃ mg, b₀.Ns mainGlobals mg
  b : ∃ mb, b₀.Ns builtinsNs mb ∧ ∀ x : Str, x ≠ "__name__" → mb x = bootBuiltins x
  nolimit : b₀.NoLimit
  big : sysModules < b₀.objs.size

theorem lookup_of_cn {x : Str} : ∀ {l : List (Str × Addr)}, x ∈ l.map (·.1) → ∃ c, l.lookup x = some c
  | [], h => by simp at h
  | (y, c) :: r, h => by
    rw [List.lookup_cons]
    cases hb : x == y with
    | true => exact ⟨c, rfl⟩
    | false =>
      rcases List.mem_cons.mp h with e | h
      · rw [e] at hb; simp at hb
      · exact lookup_of_cn h

section
variable {w : World} {b₀ : Heap} {n : Nat} {cx : Cx} {st st1 st2 st3 : ASt} {v v1 v2 v3 : AVal} {pos : Pos} {x : Str} {K : Frag}

theorem EnvOK.k {env : Env} (h : EnvOK cx env) : env.scope.kind = .function := by rw [h.scope]; exact h.kind
theorem EnvOK.kindOf {env : Env} (h : EnvOK cx env) (x : Str) : env.kindOf x = cx.sc.names.lookup x := by unfold Env.kindOf; rw [h.scope]
theorem EnvOK.notClass {env : Env} (h : EnvOK cx env) : (env.scope.kind == .class || (env.scope.kind == .module && env.locals != env.globals)) = false := by rw [h.k]; rfl

theorem Ev.loc (hk : cx.sc.names.lookup x = some .local) (hv : st.loc x = some v) (hd : (x == ("__debug__" : Str)) = false) : Ev w b₀ n cx (.Name x pos) st v st := by
  intro A env E s ρ Q hR hE hB k
  obtain ⟨m, hn, hm⟩ := hB.loc.ns
  have hk' : env.kindOf x = some .local := (hE.kindOf x).trans hk
  obtain ⟨u, hu, hvr⟩ := hm x v hv hk'
  exact wpAny_Name (wpAny_loadName_local hE.k hk' hn hu (k _ _ _ Stp.refl hB hvr)) hd

theorem Ev.cell (hk : cx.sc.names.lookup x = some .cell) (hc : x ∈ cx.cn) (hv : st.loc x = some v) (hd : (x == ("__debug__" : Str)) = false) : Ev w b₀ n cx (.Name x pos) st v st := by
  intro A env E s ρ Q hR hE hB k
  have hk' : env.kindOf x = some .cell := (hE.kindOf x).trans hk
  obtain ⟨c, hc'⟩ := lookup_of_cn (x := x) (l := env.cells) (hE.cells ▸ hc)
  obtain ⟨ov, hcell, hval⟩ := hB.loc.cells x c hc'
  obtain ⟨u, rfl, hvr⟩ := hval v hv
  exact wpAny_Name (wpAny_loadName_cell hE.k hk' hc' hcell (k _ _ _ Stp.refl hB hvr)) hd
theorem Ev.free (hk : cx.sc.names.lookup x = some .free) (hc : x ∈ cx.cn) (hv : st.loc x = some v) (hd : (x == ("__debug__" : Str)) = false) (hd' : (x == ("__classdict__" : Str)) = false) : Ev w b₀ n cx (.Name x pos) st v st := by
  intro A env E s ρ Q hR hE hB k
  have hk' : env.kindOf x = some .free := (hE.kindOf x).trans hk
  obtain ⟨c, hc'⟩ := lookup_of_cn (x := x) (l := env.cells) (hE.cells ▸ hc)
  obtain ⟨ov, hcell, hval⟩ := hB.loc.cells x c hc'
  obtain ⟨u, rfl, hvr⟩ := hval v hv
  exact wpAny_Name (wpAny_loadName_free hE.k hk' hc' hcell (k _ _ _ Stp.refl hB hvr) hd') hd

theorem Ev.glob {u : Value} (G : Glo K b₀) (hk : cx.sc.names.lookup x = some .globalImplicit) (e : nsIn K mainGlobals x = some (some u)) (hv : VR [] v u) (hd : (x == ("__debug__" : Str)) = false) : Ev w b₀ n cx (.Name x pos) st v st := by
  intro A env E s ρ Q hR hE hB k
  have hk' : env.kindOf x = some .globalImplicit := (hE.kindOf x).trans hk
  obtain ⟨mg, hg⟩ := G.g
  refine Name_function_global hE.k hk' (loadGlobal_global (mg := mg) (by rw [hE.globals]; exact hg.keeps hB.sim.stat) (mg_of G.inn hg e) (k _ _ _ Stp.refl hB ?_)) hd
  have := hv.mono (l := ρ); simpa using this
theorem Ev.blt {u : Value} (G : Glo K b₀) (hk : cx.sc.names.lookup x = some .globalImplicit) (e : nsIn K mainGlobals x = some none) (hb : bootBuiltins x = some u) (hx : x ≠ "__name__") (hd : (x == ("__debug__" : Str)) = false) : Ev w b₀ n cx (.Name x pos) st (.val u) st := by
  intro A env E s ρ Q hR hE hB k
  have hk' : env.kindOf x = some .globalImplicit := (hE.kindOf x).trans hk
  obtain ⟨mg, hg⟩ := G.g
  obtain ⟨mb, hb', hbb⟩ := G.b
  exact Name_function_global hE.k hk' (loadGlobal_builtin (mg := mg) (mb := mb) (by rw [hE.globals]; exact hg.keeps hB.sim.stat) (mg_none_of G.inn hg e) (by rw [hE.builtins]; exact hb'.keeps hB.sim.stat) ((hbb x hx).trans hb) (k _ _ _ Stp.refl hB rfl)) hd

theorem Ev.int {i : Int} {kd : Nat} : Ev w b₀ n cx (.Constant (.int i) kd pos) st (.int i) st := by
  intro A env E s ρ Q hR hE hB k
  exact wpAny_Constant_int (k _ _ _ (Stp.toks _) (hB.toks _) ⟨_, rfl⟩)
theorem Ev.str {y : Str} {kd : Nat} : Ev w b₀ n cx (.Constant (.str y) kd pos) st (.str y) st := by
  intro A env E s ρ Q hR hE hB k
  exact wpAny_Constant_str (k _ _ _ (Stp.toks _) (hB.toks _) ⟨_, rfl⟩)
theorem Ev.bool {c : Bool} {kd : Nat} : Ev w b₀ n cx (.Constant (.bool c) kd pos) st (.bool c) st := by
  intro A env E s ρ Q hR hE hB k
  exact PySem.wpAny_Constant_bool (k _ _ _ Stp.refl hB rfl)

theorem Ev.bin {l r : Expr} {op : Operator} {H' : List AObj} (hl : Ev w b₀ n cx l st v1 st1) (hr : Ev w b₀ n cx r st1 v2 st2) (ho : Op2 w b₀ n (binaryOp op) VR v1 v2 st2.H v H') :
    Ev w b₀ n cx (.BinOp l op r pos) st v ⟨H', st2.loc⟩ := by
  intro A env E s ρ Q hR hE hB k
  refine wpAny_BinOp (hl A env E s ρ _ hR hE hB fun s1 ρ1 u1 h1 hB1 hv1 => hr A env E s1 ρ1 _ hR hE hB1 fun s2 ρ2 u2 h2 hB2 hv2 => ?_)
  exact ho A E s2 ρ2 u1 u2 _ hR hB2.sim (h2.vr hv1) hv2 fun s3 ρ3 r h3 hS3 hr => k _ _ _ ((h1.trans h2).trans h3.nil) (hB2.step h3 hS3) hr

theorem Ev.cmp {l r : Expr} {op : CmpOp} {H' : List AObj} (hl : Ev w b₀ n cx l st v1 st1) (hr : Ev w b₀ n cx r st1 v2 st2) (ho : Op2 w b₀ n (compareOp op) VR v1 v2 st2.H v H')
    (hm : behindInMarks op r = false := by with_unfolding_all rfl) : Ev w b₀ n cx (.Compare l [op] [r] pos) st v ⟨H', st2.loc⟩ := by
  intro A env E s ρ Q hR hE hB k
  refine wpAny_Compare1 (hl A env E s ρ _ hR hE hB fun s1 ρ1 u1 h1 hB1 hv1 => hr A env E s1 ρ1 _ hR hE hB1 fun s2 ρ2 u2 h2 hB2 hv2 => ?_) hm
  exact ho A E s2 ρ2 u1 u2 _ hR hB2.sim (h2.vr hv1) hv2 fun s3 ρ3 r h3 hS3 hr => k _ _ _ ((h1.trans h2).trans h3.nil) (hB2.step h3 hS3) hr

theorem Tr.cmp {l r : Expr} {op : CmpOp} {H' : List AObj} {c : Bool} (hl : Ev w b₀ n cx l st v1 st1) (hr : Ev w b₀ n cx r st1 v2 st2) (ho : Op2 w b₀ n (compareOp op) VR v1 v2 st2.H (.bool c) H')
    (hm : behindInMarks op r = false := by with_unfolding_all rfl) : Tr w b₀ n cx (.Compare l [op] [r] pos) st c ⟨H', st2.loc⟩ := by
  intro A env E s ρ Q hR hE hB k
  refine wpAny_isTrue_Compare1 (hl A env E s ρ _ hR hE hB fun s1 ρ1 u1 h1 hB1 hv1 => hr A env E s1 ρ1 _ hR hE hB1 fun s2 ρ2 u2 h2 hB2 hv2 => ?_) hm
  exact ho A E s2 ρ2 u1 u2 _ hR hB2.sim (h2.vr hv1) hv2 fun s3 ρ3 r h3 hS3 hr => by
    cases (hr : r = .bool c)
    exact wpAny_truthy_bool (k _ _ _ ((h1.trans h2).trans h3.nil) (hB2.step h3 hS3) rfl)

theorem Ev.not {e : Expr} {H' : List AObj} {c : Bool} (he : Ev w b₀ n cx e st v1 st1) (ho : Op1 w b₀ n truthy (fun _ b a => a = b) v1 st1.H c H') : Ev w b₀ n cx (.UnaryOp .Not e pos) st (.bool (!c)) ⟨H', st1.loc⟩ := by
  intro A env E s ρ Q hR hE hB k
  refine wpAny_UnaryOp (he A env E s ρ _ hR hE hB fun s1 ρ1 u1 h1 hB1 hv1 => not_value ?_)
  exact ho A E s1 ρ1 u1 _ hR hB1.sim hv1 fun s3 ρ3 r h3 hS3 hr => by
    cases (hr : r = c)
    exact k _ _ _ (h1.trans h3.nil) (hB1.step h3 hS3) rfl

theorem Tr.not {e : Expr} {c : Bool} (he : Tr w b₀ n cx e st c st1) : Tr w b₀ n cx (.UnaryOp .Not e pos) st (!c) st1 := by
  intro A env E s ρ Q hR hE hB k
  refine wpAny_isTrue_Not (he A env E s ρ _ hR hE hB fun s1 ρ1 u1 h1 hB1 hv1 => ?_)
  cases (hv1 : u1 = c)
  exact k _ _ _ h1 hB1 rfl

/-- the truth of a value -/
theorem Tr.val {e : Expr} {H' : List AObj} {c : Bool} (he : Ev w b₀ n cx e st v1 st1) (ho : Op1 w b₀ n truthy (fun _ b a => a = b) v1 st1.H c H')
    (hd : ∀ env whole, PySem.isTrue e env whole = (do let v ← whole; standAt e.pos; holding [v] (truthy v)) := by intros; rfl) : Tr w b₀ n cx e st c ⟨H', st1.loc⟩ := by
  intro A env E s ρ Q hR hE hB k
  refine wpAny_isTrue_value (he A env E s ρ _ hR hE hB fun s1 ρ1 u1 h1 hB1 hv1 => ?_) (hd env _)
  exact ho A E s1 ρ1 u1 _ hR hB1.sim hv1 fun s3 ρ3 r h3 hS3 hr => by
    cases (hr : r = c)
    exact k _ _ _ (h1.trans h3.nil) (hB1.step h3 hS3) rfl
theorem truthy_bool {c : Bool} {H : List AObj} : Op1 w b₀ n truthy (fun _ b a => a = b) (.bool c) H c H := by
  intro A E s ρ u Q hR hS hv k
  cases (hv : u = .bool c)
  exact wpAny_truthy_bool (k _ _ _ Stp.refl hS rfl)
theorem Tr.valb {e : Expr} {c : Bool} (he : Ev w b₀ n cx e st (.bool c) st1)
    (hd : ∀ env whole, PySem.isTrue e env whole = (do let v ← whole; standAt e.pos; holding [v] (truthy v)) := by intros; rfl) : Tr w b₀ n cx e st c st1 := Tr.val he truthy_bool hd

theorem Tr.and_nil : Tr w b₀ n cx (.BoolOp .And [] pos) st true st := by
  intro A env E s ρ Q hR hE hB k
  exact isTrue_and_nil (k _ _ _ Stp.refl hB rfl)
theorem Tr.or_nil : Tr w b₀ n cx (.BoolOp .Or [] pos) st false st := by
  intro A env E s ρ Q hR hE hB k
  exact isTrue_or_nil (k _ _ _ Stp.refl hB rfl)
theorem Tr.and_t {e : Expr} {es : List Expr} {c : Bool} (he : Tr w b₀ n cx e st true st1) (hr : Tr w b₀ n cx (.BoolOp .And es pos) st1 c st2) : Tr w b₀ n cx (.BoolOp .And (e :: es) pos) st c st2 := by
  intro A env E s ρ Q hR hE hB k
  refine isTrue_and (he A env E s ρ _ hR hE hB fun s1 ρ1 u1 h1 hB1 hv1 => ?_)
  cases (hv1 : u1 = true)
  exact hr A env E s1 ρ1 _ hR hE hB1 fun s2 ρ2 u2 h2 hB2 hv2 => k _ _ _ (h1.trans h2) hB2 hv2
theorem Tr.and_f {e : Expr} {es : List Expr} (he : Tr w b₀ n cx e st false st1) : Tr w b₀ n cx (.BoolOp .And (e :: es) pos) st false st1 := by
  intro A env E s ρ Q hR hE hB k
  refine isTrue_and (he A env E s ρ _ hR hE hB fun s1 ρ1 u1 h1 hB1 hv1 => ?_)
  cases (hv1 : u1 = false)
  exact k _ _ _ h1 hB1 rfl
theorem Tr.or_f {e : Expr} {es : List Expr} {c : Bool} (he : Tr w b₀ n cx e st false st1) (hr : Tr w b₀ n cx (.BoolOp .Or es pos) st1 c st2) : Tr w b₀ n cx (.BoolOp .Or (e :: es) pos) st c st2 := by
  intro A env E s ρ Q hR hE hB k
  refine isTrue_or (he A env E s ρ _ hR hE hB fun s1 ρ1 u1 h1 hB1 hv1 => ?_)
  cases (hv1 : u1 = false)
  exact hr A env E s1 ρ1 _ hR hE hB1 fun s2 ρ2 u2 h2 hB2 hv2 => k _ _ _ (h1.trans h2) hB2 hv2
theorem Tr.or_t {e : Expr} {es : List Expr} (he : Tr w b₀ n cx e st true st1) : Tr w b₀ n cx (.BoolOp .Or (e :: es) pos) st true st1 := by
  intro A env E s ρ Q hR hE hB k
  refine isTrue_or (he A env E s ρ _ hR hE hB fun s1 ρ1 u1 h1 hB1 hv1 => ?_)
  cases (hv1 : u1 = true)
  exact k _ _ _ h1 hB1 rfl

/- the same as values; the parts are bools -/
theorem Ev.one {op : BoolOp} {e : Expr} (he : Ev w b₀ n cx e st v st1) : Ev w b₀ n cx (.BoolOp op [e] pos) st v st1 := by
  intro A env E s ρ Q hR hE hB k
  exact BoolOp_one (he A env E s ρ _ hR hE hB k)
theorem Ev.and_t {e e2 : Expr} {es : List Expr} (he : Ev w b₀ n cx e st (.bool true) st1) (hr : Ev w b₀ n cx (.BoolOp .And (e2 :: es) pos) st1 v st2) : Ev w b₀ n cx (.BoolOp .And (e :: e2 :: es) pos) st v st2 := by
  intro A env E s ρ Q hR hE hB k
  refine BoolOp_and (he A env E s ρ _ hR hE hB fun s1 ρ1 u1 h1 hB1 hv1 => ?_)
  cases (hv1 : u1 = .bool true)
  exact wpAny_truthy_bool (hr A env E s1 ρ1 _ hR hE hB1 fun s2 ρ2 u2 h2 hB2 hv2 => k _ _ _ (h1.trans h2) hB2 hv2)
theorem Ev.and_f {e e2 : Expr} {es : List Expr} (he : Ev w b₀ n cx e st (.bool false) st1) : Ev w b₀ n cx (.BoolOp .And (e :: e2 :: es) pos) st (.bool false) st1 := by
  intro A env E s ρ Q hR hE hB k
  refine BoolOp_and (he A env E s ρ _ hR hE hB fun s1 ρ1 u1 h1 hB1 hv1 => ?_)
  cases (hv1 : u1 = .bool false)
  exact wpAny_truthy_bool (k _ _ _ h1 hB1 rfl)
theorem Ev.or_f {e e2 : Expr} {es : List Expr} (he : Ev w b₀ n cx e st (.bool false) st1) (hr : Ev w b₀ n cx (.BoolOp .Or (e2 :: es) pos) st1 v st2) : Ev w b₀ n cx (.BoolOp .Or (e :: e2 :: es) pos) st v st2 := by
  intro A env E s ρ Q hR hE hB k
  refine BoolOp_or (he A env E s ρ _ hR hE hB fun s1 ρ1 u1 h1 hB1 hv1 => ?_)
  cases (hv1 : u1 = .bool false)
  exact wpAny_truthy_bool (hr A env E s1 ρ1 _ hR hE hB1 fun s2 ρ2 u2 h2 hB2 hv2 => k _ _ _ (h1.trans h2) hB2 hv2)
theorem Ev.or_t {e e2 : Expr} {es : List Expr} (he : Ev w b₀ n cx e st (.bool true) st1) : Ev w b₀ n cx (.BoolOp .Or (e :: e2 :: es) pos) st (.bool true) st1 := by
  intro A env E s ρ Q hR hE hB k
  refine BoolOp_or (he A env E s ρ _ hR hE hB fun s1 ρ1 u1 h1 hB1 hv1 => ?_)
  cases (hv1 : u1 = .bool true)
  exact wpAny_truthy_bool (k _ _ _ h1 hB1 rfl)

theorem Ev.if_t {t b o : Expr} (ht : Tr w b₀ n cx t st true st1) (hb : Ev w b₀ n cx b st1 v st2) : Ev w b₀ n cx (.IfExp t b o pos) st v st2 := by
  intro A env E s ρ Q hR hE hB k
  refine IfExp_ (ht A env E s ρ _ hR hE hB fun s1 ρ1 u1 h1 hB1 hv1 => ?_)
  cases (hv1 : u1 = true)
  exact hb A env E s1 ρ1 _ hR hE hB1 fun s2 ρ2 u2 h2 hB2 hv2 => k _ _ _ (h1.trans h2) hB2 hv2
theorem Ev.if_f {t b o : Expr} (ht : Tr w b₀ n cx t st false st1) (hb : Ev w b₀ n cx o st1 v st2) : Ev w b₀ n cx (.IfExp t b o pos) st v st2 := by
  intro A env E s ρ Q hR hE hB k
  refine IfExp_ (ht A env E s ρ _ hR hE hB fun s1 ρ1 u1 h1 hB1 hv1 => ?_)
  cases (hv1 : u1 = false)
  exact hb A env E s1 ρ1 _ hR hE hB1 fun s2 ρ2 u2 h2 hB2 hv2 => k _ _ _ (h1.trans h2) hB2 hv2

/-- items, one behind the other -/
def EvL (w : World) (b₀ : Heap) (n : Nat) (cx : Cx) (es : List Expr) (st : ASt) (vs : List AVal) (st' : ASt) : Prop :=
  ∀ (A : Around) (env : Env) (E : Value → Shared → Prop) (s : Shared) (ρ : List Addr) (p : Pos) (Q : List Value → Shared → Prop), Room n A → EnvOK cx env → Bel w b₀ env st ρ s →
    (∀ s' ρ' us, Stp (owns env) ρ ρ' s s' → Bel w b₀ env st' ρ' s' → VRs ρ' vs us → Q us s') → wpAny (MO w) A (spliced (backTo p (starEach es env))) Q E s
theorem EvL.nil : EvL w b₀ n cx [] st [] st := by
  intro A env E s ρ p Q hR hE hB k
  exact wpAny_items_nil (k _ _ _ Stp.refl hB trivial)
theorem EvL.cons {e : Expr} {es : List Expr} {vs : List AVal} (he : Ev w b₀ n cx e st v st1) (hr : EvL w b₀ n cx es st1 vs st2)
    (hs : ∀ env, starEach (e :: es) env = (false, eval e env) :: starEach es env := by intro _; rfl) : EvL w b₀ n cx (e :: es) st (v :: vs) st2 := by
  intro A env E s ρ p Q hR hE hB k
  refine wpAny_items_cons (he A env E s ρ _ hR hE hB fun s1 ρ1 u1 h1 hB1 hv1 => ?_) (hs env)
  exact hr A env E s1 ρ1 p _ hR hE hB1 fun s2 ρ2 us h2 hB2 hv2 => k _ _ _ (h1.trans h2) hB2 ⟨h2.vr hv1, hv2⟩

end

theorem beq_cps (x y : Str) : (x.cps.toList == y.cps.toList) = decide (x = y) := by
  obtain ⟨⟨a⟩⟩ := x
  obtain ⟨⟨b⟩⟩ := y
  by_cases h : a = b
  · subst h; simp
  · simp [h]

section
variable {w : World} {b₀ : Heap} {n : Nat} {H : List AObj} {K : Frag}

/- ints -/
theorem op_mod {a b : Int} (hb : b ≠ 0) : Op2 w b₀ n (binaryOp .Mod) VR (.int a) (.int b) H (.int (a.fmod b)) H := by
  intro A E s ρ u u2 Q hR hS h1 h2 k
  obtain ⟨t, rfl⟩ := h1; obtain ⟨t2, rfl⟩ := h2
  exact mod_int' hb (k _ _ _ (Stp.toks _) hS ⟨_, rfl⟩)
theorem op_fdiv {a b : Int} (hb : b ≠ 0) (hp : Builtin.divisionGoesByPylong a b = false) : Op2 w b₀ n (binaryOp .FloorDiv) VR (.int a) (.int b) H (.int (a.fdiv b)) H := by
  intro A E s ρ u u2 Q hR hS h1 h2 k
  obtain ⟨t, rfl⟩ := h1; obtain ⟨t2, rfl⟩ := h2
  exact floordiv_int hb (k _ _ _ (Stp.toks _) hS ⟨_, rfl⟩) (.inl hp)
theorem op_mul {a b : Int} (hm : IntMulOk a b) : Op2 w b₀ n (binaryOp .Mult) VR (.int a) (.int b) H (.int (a * b)) H := by
  intro A E s ρ u u2 Q hR hS h1 h2 k
  obtain ⟨t, rfl⟩ := h1; obtain ⟨t2, rfl⟩ := h2
  exact P.mul_int (k _ _ _ (Stp.toks _) hS ⟨_, rfl⟩) hm
theorem op_add {a b : Int} : Op2 w b₀ n (binaryOp .Add) VR (.int a) (.int b) H (.int (a + b)) H := by
  intro A E s ρ u u2 Q hR hS h1 h2 k
  obtain ⟨t, rfl⟩ := h1; obtain ⟨t2, rfl⟩ := h2
  exact P.add_int (k _ _ _ (Stp.toks _) hS ⟨_, rfl⟩)
theorem op_sub {a b : Int} : Op2 w b₀ n (binaryOp .Sub) VR (.int a) (.int b) H (.int (a - b)) H := by
  intro A E s ρ u u2 Q hR hS h1 h2 k
  obtain ⟨t, rfl⟩ := h1; obtain ⟨t2, rfl⟩ := h2
  exact P.sub_int (k _ _ _ (Stp.toks _) hS ⟨_, rfl⟩)
theorem op_eqi {a b : Int} : Op2 w b₀ n (compareOp .Eq) VR (.int a) (.int b) H (.bool (a == b)) H := by
  intro A E s ρ u u2 Q hR hS h1 h2 k
  obtain ⟨t, rfl⟩ := h1; obtain ⟨t2, rfl⟩ := h2
  exact P.eq_int (k _ _ _ Stp.refl hS rfl)
theorem op_lti {a b : Int} : Op2 w b₀ n (compareOp .Lt) VR (.int a) (.int b) H (.bool (decide (a < b))) H := by
  intro A E s ρ u u2 Q hR hS h1 h2 k
  obtain ⟨t, rfl⟩ := h1; obtain ⟨t2, rfl⟩ := h2
  exact P.lt_int (k _ _ _ Stp.refl hS rfl)
theorem op_gti {a b : Int} : Op2 w b₀ n (compareOp .Gt) VR (.int a) (.int b) H (.bool (decide (a > b))) H := by
  intro A E s ρ u u2 Q hR hS h1 h2 k
  obtain ⟨t, rfl⟩ := h1; obtain ⟨t2, rfl⟩ := h2
  exact P.gt_int (k _ _ _ Stp.refl hS rfl)
theorem op_neb {a b : Bool} : Op2 w b₀ n (compareOp .NotEq) VR (.bool a) (.bool b) H (.bool (a != b)) H := by
  intro A E s ρ u u2 Q hR hS h1 h2 k
  cases (h1 : u = .bool a); cases (h2 : u2 = .bool b)
  exact ne_bool (k _ _ _ Stp.refl hS rfl)
theorem op_eqs {a b : Str} : Op2 w b₀ n (compareOp .Eq) VR (.str a) (.str b) H (.bool (decide (a = b))) H := by
  intro A E s ρ u u2 Q hR hS h1 h2 k
  obtain ⟨t, rfl⟩ := h1; obtain ⟨t2, rfl⟩ := h2
  exact P.eq_str (by rw [beq_cps]; exact k _ _ _ Stp.refl hS rfl)

/- dicts -/
theorem Sim.dict {ρ : List Addr} {h : Heap} {i : Nat} {kvs : List (Str × AVal)} {u : Value} (S : Sim w b₀ ρ H h) (hu : VR ρ (.ref i) u) (ho : H[i]? = some (.dict kvs)) :
    ∃ a kus, u = .ref a ∧ ρ[i]? = some a ∧ h.DictOf (strKind PR w) a kus ∧ KRs ρ kvs kus := by
  obtain ⟨a, h1, h2, kus, h3, h4⟩ := S.ref hu ho
  exact ⟨a, kus, h1, h2, h3, h4⟩
theorem op_inD {i : Nat} {kvs : List (Str × AVal)} {x : Str} (G : Glo K b₀) (ho : H[i]? = some (.dict kvs)) : Op2 w b₀ n (compareOp .In) VR (.str x) (.ref i) H (.bool (aget kvs x).isSome) H := by
  intro A E s ρ u u2 Q hR hS h1 h2 k
  obtain ⟨t, rfl⟩ := h1
  obtain ⟨a, kus, rfl, ha, hd, hk⟩ := hS.dict h2 ho
  refine wpAny_in_of (strKind_is _ _ _ _) (hS.notMods G.big ha) hd.mapOf ?_
  have := hk.find (k := x)
  have e : (valueAt kus x).isSome = (aget kvs x).isSome := by
    cases hx : aget kvs x with
    | none => rw [hx] at this; rw [this]; rfl
    | some v => rw [hx] at this; obtain ⟨_, h3, _⟩ := this; rw [h3]; rfl
  rw [e]
  exact k _ _ _ (Stp.toks _) hS rfl
theorem op_ninD {i : Nat} {kvs : List (Str × AVal)} {x : Str} (G : Glo K b₀) (ho : H[i]? = some (.dict kvs)) : Op2 w b₀ n (compareOp .NotIn) VR (.str x) (.ref i) H (.bool (!(aget kvs x).isSome)) H := by
  intro A E s ρ u u2 Q hR hS h1 h2 k
  obtain ⟨t, rfl⟩ := h1
  obtain ⟨a, kus, rfl, ha, hd, hk⟩ := hS.dict h2 ho
  refine wpAny_notIn_of (strKind_is _ _ _ _) (hS.notMods G.big ha) hd.mapOf ?_
  have := hk.find (k := x)
  have e : (valueAt kus x).isSome = (aget kvs x).isSome := by
    cases hx : aget kvs x with
    | none => rw [hx] at this; rw [this]; rfl
    | some v => rw [hx] at this; obtain ⟨_, h3, _⟩ := this; rw [h3]; rfl
  rw [e]
  exact k _ _ _ (Stp.toks _) hS rfl
theorem op_setD {i : Nat} {kvs : List (Str × AVal)} {x : Str} {v : AVal} (ho : H[i]? = some (.dict kvs)) (hz : kvs.length ≤ 1000) :
    Op3 w b₀ n setItem (fun _ (_ : Unit) (_ : Unit) => True) (.ref i) (.str x) v H () (H.set i (.dict (aput kvs x v))) := by
  intro A E s ρ u u2 u3 Q hR hS h1 h2 h3 k
  obtain ⟨t, rfl⟩ := h2
  obtain ⟨a, kus, rfl, ha, hd, hk⟩ := hS.dict h1 ho
  refine wpAny_setItem_pairs (strKind_is _ _ _ _) hd (fun h' hd' hs => ?_) (by rw [hk.length, sizeLine_eq]; exact Nat.le_trans (by assumption) (by decide))
  obtain ⟨y1, y2⟩ := upd_step hS ha hs (o := .dict (aput kvs x v)) ⟨_, hd', hk.put h3⟩ (s.toks + 1)
  exact k _ _ _ y1 y2 trivial
theorem call_lenD {i : Nat} {kvs : List (Str × AVal)} (G : Glo K b₀) (ho : H[i]? = some (.dict kvs)) (hz : kvs.length ≤ 1000) : Cal w b₀ n (.val (.builtin "len")) [.ref i] H (.int kvs.length) H := by
  intro A E s ρ fu us Q hR hS hf hus k
  cases (hf : fu = _)
  obtain ⟨u, us', rfl, h1, h2⟩ := hus.inv_cons
  cases h2.inv_nil
  obtain ⟨a, kus, rfl, ha, hd, hk⟩ := hS.dict h1 ho
  refine call_len_dict (hS.notMods G.big ha) hd (by rw [hk.length]; omega) ?_
  rw [hk.length]
  exact k _ _ _ (Stp.toks _) hS ⟨_, rfl⟩
theorem call_dict {i : Nat} {kvs : List (Str × AVal)} (G : Glo K b₀) (ho : H[i]? = some (.dict kvs)) (hz : kvs.length ≤ 1000) : Cal w b₀ n (.val (.type "dict")) [.ref i] H (.ref H.length) (H ++ [.dict kvs]) := by
  intro A E s ρ fu us Q hR hS hf hus k
  cases (hf : fu = _)
  obtain ⟨u, us', rfl, h1, h2⟩ := hus.inv_cons
  cases h2.inv_nil
  obtain ⟨a, kus, rfl, ha, hd, hk⟩ := hS.dict h1 ho
  refine kt_call_dict (hS.notMods G.big ha) hd (by rw [hk.length, sizeLine_eq]; exact Nat.le_trans (by assumption) (by decide)) fun h' hd' hs => ?_
  obtain ⟨y1, y2⟩ := alloc_step hS (h' := h') (a := s.heap.objs.size) (o := .dict kvs) (Nat.le_refl _) (fun b ob e => (hs.2 b (Nat.ne_of_lt (Heap.lt_size e))).trans (Heap.get?_push_of_some _ e))
    (by rw [hs.1, Heap.size_push]; exact Nat.le_succ _) ⟨_, hd', hk.mono⟩ s.toks
  exact k _ _ _ y1 y2 (vr_new hS)

/- lists -/
theorem Sim.list {ρ : List Addr} {h : Heap} {i : Nat} {vs : List AVal} {u : Value} (S : Sim w b₀ ρ H h) (hu : VR ρ (.ref i) u) (ho : H[i]? = some (.list vs)) :
    ∃ a us m, u = .ref a ∧ ρ[i]? = some a ∧ IsL h a (List.toArray us) m ∧ VRs ρ vs us := by
  obtain ⟨a, h1, h2, us, m, h3, h4⟩ := S.ref hu ho
  exact ⟨a, us, m, h1, h2, h3, h4⟩
theorem call_lenL {i : Nat} {vs : List AVal} (ho : H[i]? = some (.list vs)) (hz : vs.length ≤ 1000) : Cal w b₀ n (.val (.builtin "len")) [.ref i] H (.int vs.length) H := by
  intro A E s ρ fu us Q hR hS hf hus k
  cases (hf : fu = _)
  obtain ⟨u, us', rfl, h1, h2⟩ := hus.inv_cons
  cases h2.inv_nil
  obtain ⟨a, us, m, rfl, ha, hl, hv⟩ := hS.list h1 ho
  refine len_list hl.isList (by rw [List.size_toArray, hv.length]; omega) ?_
  rw [List.size_toArray, hv.length]
  exact k _ _ _ (Stp.toks _) hS ⟨_, rfl⟩
theorem call_listL {i : Nat} {vs : List AVal} (ho : H[i]? = some (.list vs)) (hz : vs.length ≤ 1000) : Cal w b₀ n (.val (.type "list")) [.ref i] H (.ref H.length) (H ++ [.list vs]) := by
  intro A E s ρ fu us Q hR hS hf hus k
  cases (hf : fu = _)
  obtain ⟨u, us', rfl, h1, h2⟩ := hus.inv_cons
  cases h2.inv_nil
  obtain ⟨a, us, m, rfl, ha, hl, hv⟩ := hS.list h1 ho
  refine call_list_seq a (.inl rfl) hl rfl rfl (fun h' c' hk hD => ?_) (by rw [List.size_toArray, hv.length, sizeLine_eq]; exact Nat.le_trans (by assumption) (by decide))
  obtain ⟨y1, y2⟩ := alloc_step hS (h' := h') (a := s.heap.objs.size) (o := .list vs) (Nat.le_refl _) hk (Nat.le_of_lt (Heap.lt_size hD)) ⟨us, c', hD, hv.mono⟩ s.toks
  exact k _ _ _ y1 y2 (vr_new hS)
theorem op_getL {i j : Nat} {vs : List AVal} {v : AVal} (ho : H[i]? = some (.list vs)) (hz : j < 100000) (hj : vs[j]? = some v) : Op2 w b₀ n getItem VR (.ref i) (.int j) H v H := by
  intro A E s ρ u u2 Q hR hS h1 h2 k
  obtain ⟨t, rfl⟩ := h2
  obtain ⟨a, us, m, rfl, ha, hl, hv⟩ := hS.list h1 ho
  obtain ⟨x, hx, hxv⟩ := hv.get hj
  exact wpAny_getItem_list hl.isList (Int.natCast_nonneg _) (by omega) (by simpa using hx) (k _ _ _ Stp.refl hS hxv)
theorem op_getX {i j : Nat} {vs : List AVal} {v : AVal} (ho : H[i]? = some (.lst vs)) (hz : j < 100000) (hj : vs[j]? = some v) : Op2 w b₀ n getItem VR (.ref i) (.int j) H v H := by
  intro A E s ρ u u2 Q hR hS h1 h2 k
  obtain ⟨t, rfl⟩ := h2
  obtain ⟨a, rfl, ha, us, hl, hv⟩ := hS.ref h1 ho
  obtain ⟨x, hx, hxv⟩ := hv.get hj
  exact wpAny_getItem_list hl (Int.natCast_nonneg _) (by omega) (by simpa using hx) (k _ _ _ Stp.refl hS hxv)
theorem op_setX {i j : Nat} {vs : List AVal} {v : AVal} (ho : H[i]? = some (.lst vs)) (hz : j < 100000) (hj : j < vs.length) :
    Op3 w b₀ n setItem (fun _ (_ : Unit) (_ : Unit) => True) (.ref i) (.int j) v H () (H.set i (.lst (vs.set j v))) := by
  intro A E s ρ u u2 u3 Q hR hS h1 h2 h3 k
  obtain ⟨t, rfl⟩ := h2
  obtain ⟨a, rfl, ha, us, hl, hv⟩ := hS.ref h1 ho
  refine wpAny_setItem_list hl (Int.natCast_nonneg _) (by omega) (by rw [List.size_toArray, hv.length]; omega) fun h' hl' hs => ?_
  obtain ⟨y1, y2⟩ := upd_step hS ha hs (o := .lst (vs.set j v)) ⟨us.set j u3, by simpa using hl', hv.set j h3⟩ s.toks
  exact k _ _ _ y1 y2 trivial
theorem op_getT {i : Nat} {j : Nat} {vs : List AVal} {v : AVal} (ho : H[i]? = some (.tup vs)) (hz : j < 100000) (hj : vs[j]? = some v) : Op2 w b₀ n getItem VR (.ref i) (.int j) H v H := by
  intro A E s ρ u u2 Q hR hS h1 h2 k
  obtain ⟨t, rfl⟩ := h2
  obtain ⟨a, rfl, ha, us, hl, hv⟩ := hS.ref h1 ho
  obtain ⟨x, hx, hxv⟩ := hv.get hj
  have hlt : j < us.length := (List.getElem?_eq_some_iff.mp hx).1
  refine PyProof.Rows.getItem_tuple (t := a) (items := List.toArray us) hl (by omega) (by omega) (seqIndex_of (k := (j : Int)) (Int.natCast_nonneg _) (by rw [List.size_toArray]; omega)) (by simpa using hx) (k _ _ _ Stp.refl hS hxv)
theorem op_getD {i : Nat} {kvs : List (Str × AVal)} {x : Str} {v : AVal} (ho : H[i]? = some (.dict kvs)) (hx : aget kvs x = some v) : Op2 w b₀ n getItem VR (.ref i) (.str x) H v H := by
  intro A E s ρ u u2 Q hR hS h1 h2 k
  obtain ⟨t, rfl⟩ := h2
  obtain ⟨a, kus, rfl, ha, hd, hk⟩ := hS.dict h1 ho
  have := hk.find (k := x)
  rw [hx] at this
  obtain ⟨y, hy, hyv⟩ := this
  exact wpAny_getItem_of (strKind_is _ _ _ _) hd.mapOf hy (k _ _ _ (Stp.toks _) hS hyv)

/-- strings in a list -/
def strIn (x : Str) (vs : List Str) : Bool := vs.any fun y => decide (y = x)
theorem strs_of {ρ : List Addr} : ∀ {ys : List Str} {us : List Value}, VRs ρ (ys.map .str) us → ∃ ts : List (Str × Tok), us = ts.map (fun p => Value.str p.1 p.2) ∧ ts.map (·.1) = ys
  | [], us, h => ⟨[], by cases h.inv_nil; rfl, rfl⟩
  | y :: ys, us, h => by
    obtain ⟨u, us', rfl, ⟨t, rfl⟩, h2⟩ := h.inv_cons
    obtain ⟨ts, rfl, e⟩ := strs_of h2
    exact ⟨(y, t) :: ts, rfl, by simp [e]⟩
def eqS (x : Str) (v : Value) : Bool := match v with | .str y _ => decide (y = x) | _ => false
theorem strIn_eq (x : Str) : ∀ ts : List (Str × Tok), ((ts.map (fun p => Value.str p.1 p.2)).toArray).any (eqS x) = strIn x (ts.map (·.1)) := by
  intro ts
  rw [List.any_toArray]
  induction ts with
  | nil => rfl
  | cons p r ih =>
    simp only [List.map_cons, List.any_cons, strIn, eqS] at ih ⊢
    rw [ih]
end

def MethForm (o : Expr) (name : Str) (apos : Pos) (args : List Expr) (pos : Pos) : Prop :=
  ∀ env, eval (.Call (.Attribute o name apos) args [] pos) env = (do
      let ov ← eval o env
      standAt apos.atName
      let (f, first) ← holding [ov] (getMethod ov name (do return (← importBound o env).getD true))
      callWith pos f first (backTo pos (starEach args env)) (backToKw pos (keywordEach [] env)))

theorem mapSeq_list (us : Array Value) (m : Nat) (f : Array Value → Array Value) : ∃ m', Obj.mapSeq f { cls := .type "list", dict := none, data := .seq us m, slots := #[] } = { cls := .type "list", dict := none, data := .seq (f us) m', slots := #[] } := ⟨_, rfl⟩

theorem tooLong_not {k : Nat} (h : k ≤ 1000000) : Builtin.List.listTooLong k = false := by
  unfold Builtin.List.listTooLong
  simp only [decide_eq_false_iff_not, gt_iff_lt, sizeLine_eq]
  omega

section
variable {w : World} {b₀ : Heap} {n : Nat} {cx : Cx} {st st1 st2 st3 : ASt} {v v1 v2 v3 : AVal} {pos apos : Pos} {x : Str} {K : Frag} {H : List AObj}

theorem list_upd {ρ : List Addr} {s : Shared} {i : Nat} {a : Addr} {us us' : List Value} {m : Nat} {vs' : List AVal} (S : Sim w b₀ ρ H s.heap) (ha : ρ[i]? = some a) (hl : IsL s.heap a (List.toArray us) m)
    (f : Array Value → Array Value) (hf : f (List.toArray us) = List.toArray us') (hv : VRs ρ vs' us') (t : Nat) :
    Stp [] ρ ρ s { s with heap := s.heap.update a (Obj.mapSeq f), toks := t } ∧ Sim w b₀ ρ (H.set i (.list vs')) (s.heap.update a (Obj.mapSeq f)) := by
  obtain ⟨m', e⟩ := mapSeq_list (List.toArray us) m f
  refine upd_step S ha (Heap.SameBut.update ..) (o := .list vs') ⟨us', m', ?_, hv⟩ t
  have := Heap.get?_update_self (Obj.mapSeq f) hl (by rw [e]; rfl)
  rw [e, hf] at this
  exact this

theorem Ev.append {o e : Expr} {i : Nat} {vs vs' : List AVal} (ho : Ev w b₀ n cx o st (.ref i) st1) (h1 : st1.H[i]? = some (.list vs')) (he : Ev w b₀ n cx e st1 v st2) (hl : st2.H[i]? = some (.list vs))
    (hz : vs.length ≤ 100000) (hf : MethForm o "append" apos [e] pos) (hs : ∀ env, starEach [e] env = [(false, eval e env)] := by intro _; rfl) :
    Ev w b₀ n cx (.Call (.Attribute o "append" apos) [e] [] pos) st .none ⟨st2.H.set i (.list (vs ++ [v])), st2.loc⟩ := by
  intro A env E s ρ Q hR hE hB k
  refine methodCall_KW (pl := do return (← importBound o env).getD true) (ho A env E s ρ _ hR hE hB fun s1 ρ1 u1 y1 hB1 hv1 => ?_) (hf env)
  obtain ⟨a, us, m, rfl, ha, hl1, -⟩ := hB1.sim.list hv1 h1
  refine getMethod_builtin ⟨_, hl1, rfl⟩ F.plainAttrs_list F.slot_list_append F.type_list_append (fun b e => by cases e; exact ⟨_, hl1, rfl⟩) ?_
  rw [hs env]
  refine P.append_list (he A env E s1 ρ1 _ hR hE hB1 fun s2 ρ2 u2 y2 hB2 hv2 => ?_)
  obtain ⟨a2, us2, m2, e2, ha2, hl2, hvs⟩ := hB2.sim.list (y2.vr hv1) hl
  cases e2
  refine ⟨_, _, ?_, hl2, ?_⟩
  · rw [List.size_toArray, hvs.length, sizeLine_eq]; exact Nat.le_trans (by assumption) (by decide)
  · obtain ⟨z1, z2⟩ := list_upd hB2.sim ha2 hl2 (fun xs => xs.push u2) (us' := us2 ++ [u2]) (by simp) (hvs.append (VRs.one hv2)) s2.toks
    exact k _ _ _ ((y1.trans y2).trans z1.nil) (hB2.step z1 z2) rfl

theorem Ev.extend {o e : Expr} {i j : Nat} {vs vs' ws : List AVal} (ho : Ev w b₀ n cx o st (.ref i) st1) (h1 : st1.H[i]? = some (.list vs')) (he : Ev w b₀ n cx e st1 (.ref j) st2) (hl : st2.H[i]? = some (.list vs)) (hj : st2.H[j]? = some (.list ws))
    (hz : vs.length ≤ 100000) (hz' : ws.length ≤ 100000) (hf : MethForm o "extend" apos [e] pos) (hs : ∀ env, starEach [e] env = [(false, eval e env)] := by intro _; rfl) :
    Ev w b₀ n cx (.Call (.Attribute o "extend" apos) [e] [] pos) st .none ⟨st2.H.set i (.list (vs ++ ws)), st2.loc⟩ := by
  intro A env E s ρ Q hR hE hB k
  refine methodCall_KW (pl := do return (← importBound o env).getD true) (ho A env E s ρ _ hR hE hB fun s1 ρ1 u1 y1 hB1 hv1 => ?_) (hf env)
  obtain ⟨a, us, m, rfl, ha, hl1, -⟩ := hB1.sim.list hv1 h1
  refine getMethod_builtin ⟨_, hl1, rfl⟩ F.plainAttrs_list F.slot_list_extend F.type_list_extend (fun b e => by cases e; exact ⟨_, hl1, rfl⟩) ?_
  rw [hs env]
  refine P.extend_list (he A env E s1 ρ1 _ hR hE hB1 fun s2 ρ2 u2 y2 hB2 hv2 => ?_)
  obtain ⟨a2, us2, m2, e2, ha2, hl2, hvs⟩ := hB2.sim.list (y2.vr hv1) hl
  cases e2
  obtain ⟨b, us3, m3, rfl, hb3, hl3, hws⟩ := hB2.sim.list hv2 hj
  have z : us2.length + us3.length ≤ 200000 := by rw [hvs.length, hws.length]; omega
  refine ⟨b, _, _, _, _, ?_, ?_, ?_, rfl, hl2, hl3, ?_⟩
  · rw [List.size_toArray, hvs.length, sizeLine_eq]; exact Nat.le_trans (by assumption) (by decide)
  · rw [List.size_toArray, List.size_toArray, sizeLine_eq]; exact Nat.le_trans (by assumption) (by decide)
  · rw [List.size_toArray, List.size_toArray]
    rw [tooLong_not (by exact Nat.le_trans (by assumption) (by decide))]; simp
  · obtain ⟨z1, z2⟩ := list_upd hB2.sim ha2 hl2 (fun xs => xs ++ List.toArray us3) (us' := us2 ++ us3) (by simp) (hvs.append hws) s2.toks
    exact k _ _ _ ((y1.trans y2).trans z1.nil) (hB2.step z1 z2) rfl

theorem Ev.pop {o : Expr} {i : Nat} {vs : List AVal} (ho : Ev w b₀ n cx o st (.ref i) st1) (hl : st1.H[i]? = some (.list (vs ++ [v]))) (hz : vs.length ≤ 100000) (hf : MethForm o "pop" apos [] pos) :
    Ev w b₀ n cx (.Call (.Attribute o "pop" apos) [] [] pos) st v ⟨st1.H.set i (.list vs), st1.loc⟩ := by
  intro A env E s ρ Q hR hE hB k
  refine methodCall_KW (pl := do return (← importBound o env).getD true) (ho A env E s ρ _ hR hE hB fun s1 ρ1 u1 y1 hB1 hv1 => ?_) (hf env)
  obtain ⟨a, us, m, rfl, ha, hl1, hvs⟩ := hB1.sim.list hv1 hl
  refine getMethod_builtin ⟨_, hl1, rfl⟩ F.plainAttrs_list F.slot_list_pop F.type_list_pop (fun b e => by cases e; exact ⟨_, hl1, rfl⟩) ?_
  have hlen := hvs.length
  rw [List.length_append, List.length_singleton] at hlen
  obtain ⟨u, hu, hvu⟩ := hvs.get (i := vs.length) (v := v) (by simp)
  have hsz : (List.toArray us).size - 1 = vs.length := by rw [List.size_toArray]; omega
  refine P.pop_list hl1 (y := u) (by rw [hsz]; simpa using hu) ?_ (by rw [List.size_toArray, hlen, sizeLine_eq]; omega)
  rw [hsz]
  have htake := hvs.take vs.length
  rw [List.take_left] at htake
  obtain ⟨z1, z2⟩ := list_upd hB1.sim ha hl1 (fun xs => xs.eraseIdxIfInBounds vs.length) (us' := us.take vs.length) (by
    rw [List.eraseIdxIfInBounds_toArray, List.eraseIdx_eq_take_drop_succ, List.drop_of_length_le (by exact Nat.le_of_eq (by assumption))]; simp) htake s1.toks
  exact k _ _ _ (y1.trans z1.nil) (hB1.step z1 z2) (z1.vr hvu)

theorem Ev.reverse {o : Expr} {i : Nat} {vs : List AVal} (ho : Ev w b₀ n cx o st (.ref i) st1) (hl : st1.H[i]? = some (.list vs)) (hz : vs.length ≤ 100000) (hf : MethForm o "reverse" apos [] pos) :
    Ev w b₀ n cx (.Call (.Attribute o "reverse" apos) [] [] pos) st .none ⟨st1.H.set i (.list vs.reverse), st1.loc⟩ := by
  intro A env E s ρ Q hR hE hB k
  refine methodCall_KW (pl := do return (← importBound o env).getD true) (ho A env E s ρ _ hR hE hB fun s1 ρ1 u1 y1 hB1 hv1 => ?_) (hf env)
  obtain ⟨a, us, m, rfl, ha, hl1, hvs⟩ := hB1.sim.list hv1 hl
  refine getMethod_builtin ⟨_, hl1, rfl⟩ F.plainAttrs_list F.slot_list_reverse F.type_list_reverse (fun b e => by cases e; exact ⟨_, hl1, rfl⟩) ?_
  refine P.reverse_list hl1 ?_ (by rw [List.size_toArray, hvs.length, sizeLine_eq]; exact Nat.le_trans (by assumption) (by decide))
  obtain ⟨z1, z2⟩ := list_upd hB1.sim ha hl1 (fun xs => xs.reverse) (us' := us.reverse) (by simp) hvs.reverse s1.toks
  exact k _ _ _ (y1.trans z1.nil) (hB1.step z1 z2) rfl

theorem ilookup_list : typeLookup (.type "list") (dunderI "add") = pure (some (.builtin "list.__iadd__")) := F.slot_list_iadd.lookup
theorem inplace_list {A : Around} {E : Value → Shared → Prop} {s : Shared} {a b : Addr} {items items2 : Array Value} {m m2 : Nat} {Q : Value → Shared → Prop} (hl : IsL s.heap a items m) (hb : IsL s.heap b items2 m2)
    (hs0 : ¬(!items.isEmpty && Builtin.List.listTooLong (items.size + items2.size)) = true) (hs1 : items.size ≤ sizeLine) (hs2 : items.size + items2.size ≤ sizeLine + 1)
    (h : Q (.ref a) { s with heap := s.heap.update a (Obj.mapSeq fun x => x ++ items2) }) : wpAny (MO w) A (inplaceOp .Add (.ref a) (.ref b)) Q E s := by
  have ha : s.TypeIs (.ref a) "list" := ⟨_, hl, rfl⟩
  have hb' : s.TypeIs (.ref b) "list" := ⟨_, hb, rfl⟩
  unfold inplaceOp
  refine wpAny_holding ?_
  have hfi : fillsInplaceSlot (.type "list") "add" (Operator.Add == .Add) = pure false := by
    unfold fillsInplaceSlot
    show (typeLookup (.type "list") (dunderI "add") >>= fun fi => pure (fi.isSome && !isSeqSlot fi)) = pure false
    rw [ilookup_list]
    show (pure ((some (Value.builtin "list.__iadd__")).isSome && !isSeqSlot (some (.builtin "list.__iadd__"))) : Sem Bool) = pure false
    exact congrArg pure (by decide +kernel)
  have hsi : seqSlot? (.type "list") (dunderI "add") = pure (some (.builtin "list.__iadd__")) := PySem.seqSlot_of ilookup_list (by decide +kernel)
  refine wpAny_bind (wpAny_typeOf ha (wpAny_bind (wpAny_of_eq hfi ?_)))
  show wpAny _ A (if false = true then _ else _) Q E s
  rw [if_neg Bool.false_ne_true]
  refine wpAny_bind (wpAny_binaryOp1_none (nm := "add") ha hb' noFill_list_add ?_)
  refine wpAny_bind (wpAny_of_eq hsi ?_)
  exact wpAny_bind (wpAny_rule (call_meets F.slot_list_iadd ha F.entry_list_iadd (F.args_list_iadd_2 _ _) (AutoSeq1.list___iadd___list_list_0 a items m b items2 m2 hs0 hs1 hs2) ⟨hl, hb, h⟩))
theorem op_iadd {i j : Nat} {vs ws : List AVal} (hi : H[i]? = some (.list vs)) (hj : H[j]? = some (.list ws)) (hz : vs.length ≤ 100000) (hz' : ws.length ≤ 100000) :
    Op2 w b₀ n (inplaceOp .Add) VR (.ref i) (.ref j) H (.ref i) (H.set i (.list (vs ++ ws))) := by
  intro A E s ρ u u2 Q hR hS h1 h2 k
  obtain ⟨a, us, m, rfl, ha, hl, hv⟩ := hS.list h1 hi
  obtain ⟨b, us2, m2, rfl, hb, hl2, hv2⟩ := hS.list h2 hj
  refine inplace_list hl hl2 ?_ ?_ ?_ ?_
  · rw [List.size_toArray, List.size_toArray, tooLong_not (by rw [hv.length, hv2.length]; omega)]; simp
  · rw [List.size_toArray, hv.length, sizeLine_eq]; exact Nat.le_trans (by assumption) (by decide)
  · rw [List.size_toArray, List.size_toArray, hv.length, hv2.length, sizeLine_eq]; omega
  · obtain ⟨z1, z2⟩ := list_upd hS ha hl (fun x => x ++ List.toArray us2) (us' := us ++ us2) (by simp) (hv.append hv2) s.toks
    exact k _ _ _ z1 z2 ⟨a, ha, rfl⟩

theorem op_inLs {i : Nat} {ys : List Str} (ho : H[i]? = some (.list (ys.map .str))) : Op2 w b₀ n (compareOp .In) VR (.str x) (.ref i) H (.bool (strIn x ys)) H := by
  intro A E s ρ u u2 Q hR hS h1 h2 k
  obtain ⟨t, rfl⟩ := h1
  obtain ⟨a, us, m, rfl, ha, hl, hv⟩ := hS.list h2 ho
  obtain ⟨ts, rfl, rfl⟩ := strs_of hv
  refine SeqAt.in_listAt (eqS x) hl.isList (fun y hy => ?_) (by rw [strIn_eq]; exact k _ _ _ Stp.refl hS rfl)
  obtain ⟨p, _, rfl⟩ := List.mem_map.mp (List.mem_toArray.mp hy)
  have := SeqAt.EqAt.str_str (A := A.in1) (s := s) p.1 p.2 x t
  show SeqAt.EqAt _ _ _ _ (decide (p.1 = x))
  rw [show decide (p.1 = x) = (p.1 == x) from by by_cases h : p.1 = x <;> simp [h]]
  exact this
theorem op_ninLs {i : Nat} {ys : List Str} (ho : H[i]? = some (.list (ys.map .str))) : Op2 w b₀ n (compareOp .NotIn) VR (.str x) (.ref i) H (.bool (!strIn x ys)) H := by
  intro A E s ρ u u2 Q hR hS h1 h2 k
  obtain ⟨t, rfl⟩ := h1
  obtain ⟨a, us, m, rfl, ha, hl, hv⟩ := hS.list h2 ho
  obtain ⟨ts, rfl, rfl⟩ := strs_of hv
  refine SeqAt.notIn_listAt (eqS x) hl.isList (fun y hy => ?_) (by rw [strIn_eq]; exact k _ _ _ Stp.refl hS rfl)
  obtain ⟨p, _, rfl⟩ := List.mem_map.mp (List.mem_toArray.mp hy)
  have := SeqAt.EqAt.str_str (A := A.in1) (s := s) p.1 p.2 x t
  show SeqAt.EqAt _ _ _ _ (decide (p.1 = x))
  rw [show decide (p.1 = x) = (p.1 == x) from by by_cases h : p.1 = x <;> simp [h]]
  exact this

theorem bools_of {ρ : List Addr} : ∀ {ys : List Bool} {us : List Value}, VRs ρ (ys.map .bool) us → us = ys.map .bool
  | [], us, h => by cases h.inv_nil; rfl
  | y :: ys, us, h => by
    obtain ⟨u, us', rfl, h1, h2⟩ := h.inv_cons
    cases (h1 : u = _)
    rw [bools_of h2]; rfl
def eqB (x : Bool) (v : Value) : Bool := match v with | .bool y => y == x | _ => false
theorem boolIn_eq (x : Bool) (ys : List Bool) : ((ys.map Value.bool).toArray).any (eqB x) = ys.contains x := by
  rw [List.any_toArray]
  induction ys with
  | nil => rfl
  | cons p r ih =>
    simp only [List.map_cons, List.any_cons, eqB, List.contains_cons] at ih ⊢
    rw [ih]
    cases p <;> cases x <;> rfl
theorem op_inLb {i : Nat} {ys : List Bool} {c : Bool} (ho : H[i]? = some (.list (ys.map .bool))) : Op2 w b₀ n (compareOp .In) VR (.bool c) (.ref i) H (.bool (ys.contains c)) H := by
  intro A E s ρ u u2 Q hR hS h1 h2 k
  cases (h1 : u = _)
  obtain ⟨a, us, m, rfl, ha, hl, hv⟩ := hS.list h2 ho
  cases bools_of hv
  refine SeqAt.in_listAt (eqB c) hl.isList (fun y hy => ?_) (by rw [boolIn_eq]; exact k _ _ _ Stp.refl hS rfl)
  obtain ⟨p, _, rfl⟩ := List.mem_map.mp (List.mem_toArray.mp hy)
  exact SeqAt.EqAt.bool_bool p c
theorem op_ninLb {i : Nat} {ys : List Bool} {c : Bool} (ho : H[i]? = some (.list (ys.map .bool))) : Op2 w b₀ n (compareOp .NotIn) VR (.bool c) (.ref i) H (.bool (!ys.contains c)) H := by
  intro A E s ρ u u2 Q hR hS h1 h2 k
  cases (h1 : u = _)
  obtain ⟨a, us, m, rfl, ha, hl, hv⟩ := hS.list h2 ho
  cases bools_of hv
  refine SeqAt.notIn_listAt (eqB c) hl.isList (fun y hy => ?_) (by rw [boolIn_eq]; exact k _ _ _ Stp.refl hS rfl)
  obtain ⟨p, _, rfl⟩ := List.mem_map.mp (List.mem_toArray.mp hy)
  exact SeqAt.EqAt.bool_bool p c

/-- against an empty list -/
theorem op_neNil {i j : Nat} {vs : List AVal} (hi : H[i]? = some (.list vs)) (hj : H[j]? = some (.list [])) : Op2 w b₀ n (compareOp .NotEq) VR (.ref i) (.ref j) H (.bool (!vs.isEmpty)) H := by
  intro A E s ρ u u2 Q hR hS h1 h2 k
  obtain ⟨a, us, m, rfl, ha, hl, hv⟩ := hS.list h1 hi
  obtain ⟨b, us2, m2, rfl, hb, hl2, hv2⟩ := hS.list h2 hj
  cases hv2.inv_nil
  have hu : A.units < cLine := by have := hR.units; omega
  refine cmp_ofNotEq ?_
  cases vs with
  | nil =>
    cases hv.inv_nil
    exact SeqAt.RcNeAt.lists (e := fun _ => true) hl.isList hl2.isList rfl hu (fun j h _ => absurd h (by simp)) _ w E Q (k _ _ _ Stp.refl hS rfl)
  | cons v vs =>
    obtain ⟨u, us', rfl, _, _⟩ := hv.inv_cons
    exact SeqAt.RcNeAt.lists_lengths hl.isList hl2.isList (by simp) hu _ w E Q (k _ _ _ Stp.refl hS rfl)

theorem call_int {i : Int} : Cal w b₀ n (.val (.type "int")) [.int i] H (.int i) H := by
  intro A E s ρ fu us Q hR hS hf hus k
  cases (hf : fu = _)
  obtain ⟨u, us', rfl, ⟨t, rfl⟩, h2⟩ := hus.inv_cons
  cases h2.inv_nil
  exact call_int_int (k _ _ _ Stp.refl hS ⟨_, rfl⟩)

/- displays -/
theorem Ev.list {es : List Expr} {vs : List AVal} (h : EvL w b₀ n cx es st vs st1) (hz : vs.length ≤ 1000) : Ev w b₀ n cx (.List es pos) st (.ref st1.H.length) ⟨st1.H ++ [.list vs], st1.loc⟩ := by
  intro A env E s ρ Q hR hE hB k
  refine wpAny_List (h A env E s ρ pos _ hR hE hB fun s1 ρ1 us y1 hB1 hv => ⟨by rw [hv.length, sizeLine_eq]; exact Nat.le_trans (by assumption) (by decide), ?_⟩)
  obtain ⟨z1, z2⟩ := push_step hB1.sim (ob := { cls := .type "list", data := .seq us.toArray }) (o := .list vs) ⟨us, 0, Heap.get?_push_size _ rfl, hv.mono⟩ s1.toks
  exact k _ _ _ (y1.trans z1.nil) (hB1.step z1 z2) (vr_new hB1.sim)
theorem Ev.tup {es : List Expr} {vs : List AVal} {kd : Nat} (h : EvL w b₀ n cx es st vs st1) (hz : vs.length ≤ 1000) : Ev w b₀ n cx (.Tuple es kd pos) st (.ref st1.H.length) ⟨st1.H ++ [.tup vs], st1.loc⟩ := by
  intro A env E s ρ Q hR hE hB k
  refine wpAny_Tuple (h A env E s ρ pos _ hR hE hB fun s1 ρ1 us y1 hB1 hv => ⟨by rw [hv.length, sizeLine_eq]; exact Nat.le_trans (by assumption) (by decide), ?_⟩)
  obtain ⟨z1, z2⟩ := push_step hB1.sim (ob := { cls := .type "tuple", data := .seq us.toArray }) (o := .tup vs) ⟨us, ⟨_, Heap.get?_push_size _ rfl, rfl, 0, rfl⟩, hv.mono⟩ s1.toks
  exact k _ _ _ (y1.trans z1.nil) (hB1.step z1 z2) (vr_new hB1.sim)
theorem Ev.dict0 : Ev w b₀ n cx (.Dict [] [] pos) st (.ref st.H.length) ⟨st.H ++ [.dict []], st.loc⟩ := by
  intro A env E s ρ Q hR hE hB k
  refine wpAny_Dict_empty ?_
  obtain ⟨z1, z2⟩ := push_step hB.sim (ob := { cls := .type "dict", data := .dict #[] }) (o := .dict []) ⟨[], Heap.DictOf.new _, trivial⟩ s.toks
  exact k _ _ _ z1.nil (hB.step z1 z2) (vr_new hB.sim)
end

def AObj.isSeq : AObj → Bool
  | .inst .. => false
  | _ => true

section
variable {w : World} {b₀ : Heap} {n : Nat} {cx : Cx} {st st1 st2 st3 : ASt} {v v1 v2 v3 : AVal} {pos apos : Pos} {x : Str} {K : Frag} {H : List AObj}

theorem OR.getitem {ρ : List Addr} {s : Shared} {a : Addr} {o : AObj} (x : OR w ρ s.heap a o) (h : o.isSeq = true) : ∃ T id, s.TypeIs (.ref a) T ∧ typeLookup (.type T) "__getitem__" = pure (some (.builtin id)) := by
  cases o with
  | list vs => obtain ⟨us, m, h1, h2⟩ := x; exact ⟨"list", _, ⟨_, h1, rfl⟩, slot_list_getitem.lookup⟩
  | lst vs => obtain ⟨us, h1, h2⟩ := x; exact ⟨"list", _, h1.typeIs, slot_list_getitem.lookup⟩
  | tup vs => obtain ⟨us, h1, h2⟩ := x; exact ⟨"tuple", _, h1.typeIs, slot_tuple_getitem.lookup⟩
  | dict kvs => obtain ⟨kus, h1, h2⟩ := x; exact ⟨"dict", _, h1.typeIs, slot_dict_getitem.lookup⟩
  | inst C d => cases h
  | ns kvs => obtain ⟨es, m, h1, h2⟩ := x; exact ⟨"dict", _, ⟨_, h1, rfl⟩, slot_dict_getitem.lookup⟩

theorem Ev.sub {value slice : Expr} {i : Nat} {o : AObj} {H' : List AObj} (ho : Ev w b₀ n cx value st (.ref i) st1) (hi : Ev w b₀ n cx slice st1 v2 st2) (h2 : st2.H[i]? = some o) (hk : o.isSeq = true)
    (hg : Op2 w b₀ n getItem VR (.ref i) v2 st2.H v H') (hs : ∀ o i, subscripted slice false o i = operate [o, i] (getItem o i) := by intros; rfl) :
    Ev w b₀ n cx (.Subscript value slice pos) st v ⟨H', st2.loc⟩ := by
  intro A env E s ρ Q hR hE hB k
  refine Subscript_ (ho A env E s ρ _ hR hE hB fun s1 ρ1 u1 y1 hB1 hv1 => hi A env E s1 ρ1 _ hR hE hB1 fun s2 ρ2 u2 y2 hB2 hv2 => ?_)
  obtain ⟨a, rfl, ha, hor⟩ := hB2.sim.ref (y2.vr hv1) h2
  obtain ⟨T, id, hT, hl⟩ := hor.getitem hk
  refine tail_any hT hl (hg A E s2 ρ2 _ _ _ hR hB2.sim (y2.vr hv1) hv2 fun s3 ρ3 r y3 hS3 hr => ?_) (hs _ _)
  exact k _ _ _ ((y1.trans y2).trans y3.nil) (hB2.step y3 hS3) hr

/-- a slice of a list from its start -/
theorem Ev.slice {value upper : Expr} {i k : Nat} {vs : List AVal} {p : Pos} (ho : Ev w b₀ n cx value st (.ref i) st1) (hi : Ev w b₀ n cx upper st1 (.int k) st2) (h2 : st2.H[i]? = some (.list vs)) (hz : vs.length ≤ 1000) :
    Ev w b₀ n cx (.Subscript value (.Slice none (some upper) none p) pos) st (.ref st2.H.length) ⟨st2.H ++ [.list (vs.take k)], st2.loc⟩ := by
  intro A env E s ρ Q hR hE hB kk
  refine Subscript_ (ho A env E s ρ _ hR hE hB fun s1 ρ1 u1 y1 hB1 hv1 => wpAny_Slice (evalPart_none_step (evalPart_some_step (hi A env E s1 ρ1 _ hR hE hB1 fun s2 ρ2 u2 y2 hB2 hv2 => evalPart_none_step ?_))))
  obtain ⟨t, rfl⟩ := hv2
  obtain ⟨a, us, m, rfl, ha, hl, hvs⟩ := hB2.sim.list (y2.vr hv1) h2
  have hl' : (s2.heap.push { cls := .type "slice", data := .fields #[.none, .int k t, .none] }).IsList a (List.toArray us) := hl.isList.push _
  refine tail_any (ops := [.ref s2.heap.objs.size, .ref a]) (s := { s2 with heap := s2.heap.push { cls := .type "slice", data := .fields #[.none, .int k t, .none] } }) hl'.typeIs slot_list_getitem.lookup
    (wpAny_getItem_list_slice (s := { s2 with heap := s2.heap.push { cls := .type "slice", data := .fields #[.none, .int k t, .none] } }) hl' (Heap.IsSliceOf.new ..) .none (.int _ _) .none (by simp) ?_ (by rw [List.size_toArray, hvs.length, sizeLine_eq]; exact Nat.le_trans (by assumption) (by decide))) rfl
  rw [slicePick_upto']
  rw [Heap.size_push]
  obtain ⟨z1, z2⟩ := alloc_step hB2.sim (a := s2.heap.objs.size + 1) (o := .list (vs.take k))
    (h' := (s2.heap.push { cls := .type "slice", data := .fields #[.none, .int k t, .none] }).push { cls := .type "list", data := .seq (List.take k us).toArray }) (Nat.le_succ _)
    (fun b ob e => Heap.get?_push_of_some _ (Heap.get?_push_of_some _ e)) (by rw [Heap.size_push, Heap.size_push]; omega)
    ⟨us.take k, 0, (by have := Heap.get?_push_size (s2.heap.push { cls := .type "slice", data := .fields #[.none, .int k t, .none] }) (o := { cls := .type "list", data := .seq (List.take k us).toArray }) rfl; rw [Heap.size_push] at this; exact this), (hvs.take k).mono⟩ s2.toks
  exact kk _ _ _ ((y1.trans y2).trans z1.nil) (hB2.step z1 z2) (vr_new hB2.sim)

/-- the same of a list that stood before -/
theorem Ev.sliceS {value upper : Expr} {l : Addr} {k : Nat} {vs : List AVal} {us : List Value} {p : Pos} (hl0 : b₀.IsList l (List.toArray us)) (hv0 : VRs [] vs us) (hz : us.length ≤ 10000) (ho : Ev w b₀ n cx value st (.val (.ref l)) st1) (hi : Ev w b₀ n cx upper st1 (.int k) st2) :
    Ev w b₀ n cx (.Subscript value (.Slice none (some upper) none p) pos) st (.ref st2.H.length) ⟨st2.H ++ [.list (vs.take k)], st2.loc⟩ := by
  intro A env E s ρ Q hR hE hB kk
  refine Subscript_ (ho A env E s ρ _ hR hE hB fun s1 ρ1 u1 y1 hB1 hv1 => wpAny_Slice (evalPart_none_step (evalPart_some_step (hi A env E s1 ρ1 _ hR hE hB1 fun s2 ρ2 u2 y2 hB2 hv2 => evalPart_none_step ?_))))
  obtain ⟨t, rfl⟩ := hv2
  cases (hv1 : u1 = _)
  have hl : s2.heap.IsList l (List.toArray us) := let ⟨ob, e, r⟩ := hl0; ⟨ob, hB2.sim.stat _ _ e, r⟩
  have hvs : VRs ρ2 vs us := by have := hv0.mono (l := ρ2); simpa using this
  have hl' : (s2.heap.push { cls := .type "slice", data := .fields #[.none, .int k t, .none] }).IsList l (List.toArray us) := hl.push _
  refine tail_any (ops := [.ref s2.heap.objs.size, .ref l]) (s := { s2 with heap := s2.heap.push { cls := .type "slice", data := .fields #[.none, .int k t, .none] } }) hl'.typeIs slot_list_getitem.lookup
    (wpAny_getItem_list_slice (s := { s2 with heap := s2.heap.push { cls := .type "slice", data := .fields #[.none, .int k t, .none] } }) hl' (Heap.IsSliceOf.new ..) .none (.int _ _) .none (by simp) ?_ (by rw [List.size_toArray, sizeLine_eq]; exact Nat.le_trans (by assumption) (by decide))) rfl
  rw [slicePick_upto']
  rw [Heap.size_push]
  obtain ⟨z1, z2⟩ := alloc_step hB2.sim (a := s2.heap.objs.size + 1) (o := .list (vs.take k))
    (h' := (s2.heap.push { cls := .type "slice", data := .fields #[.none, .int k t, .none] }).push { cls := .type "list", data := .seq (List.take k us).toArray }) (Nat.le_succ _)
    (fun b ob e => Heap.get?_push_of_some _ (Heap.get?_push_of_some _ e)) (by rw [Heap.size_push, Heap.size_push]; omega)
    ⟨us.take k, 0, (by have := Heap.get?_push_size (s2.heap.push { cls := .type "slice", data := .fields #[.none, .int k t, .none] }) (o := { cls := .type "list", data := .seq (List.take k us).toArray }) rfl; rw [Heap.size_push] at this; exact this), (hvs.take k).mono⟩ s2.toks
  exact kk _ _ _ ((y1.trans y2).trans z1.nil) (hB2.step z1 z2) (vr_new hB2.sim)

/- calls by a name -/
theorem Cal.mono {m : Nat} {f : AVal} {as : List AVal} {H' : List AObj} (h : Cal w b₀ n f as H v H') (hn : n ≤ m) : Cal w b₀ m f as H v H' := fun A E s ρ fu us Q hR => h A E s ρ fu us Q (hR.mono hn)
theorem Act.mono {α β : Type} {m : Nat} {t : Env → Sem α} {R : List Addr → β → α → Prop} {b : β} (h : Act w b₀ n cx t R st b st1) (hn : n ≤ m) : Act w b₀ m cx t R st b st1 := fun A env E s ρ Q hR => h A env E s ρ Q (hR.mono hn)

def argsPlain (args : List Expr) : Prop := ∀ env p, (backTo p (starEach args env)).any (·.1) = false
/-- any callable that the interpreter keeps plainly: functions, classes, built-ins -/
def CallForm (fv : Value) (b₀ : Heap) (w : World) : Prop := ∀ h : Heap, (∀ b o, b₀.get? b = some o → h.get? b = some o) → ∃ k, (k = Keeper.frame ∨ k = Keeper.machine ∨ k = Keeper.boundFrame) ∧ Looks (MO w) h (keeperOf fv) k
theorem callForm_K {fv : Value} (G : Glo K b₀) (hk : keepIn K fv = true) : CallForm fv b₀ w := fun h hs => keeps_K hk h (fun a o e => hs a o (G.inn a o e))
theorem callForm_B {id : String} : CallForm (.builtin id) b₀ w := fun h _ => ⟨.machine, .inr (.inl rfl), Looks.of_pure rfl⟩
theorem callForm_T {id : String} : CallForm (.type id) b₀ w := fun h _ => ⟨.machine, .inr (.inl rfl), Looks.of_pure rfl⟩

theorem evalArgs_any {A : Around} {E : Value → Shared → Prop} {s : Shared} {f : Value} {args : List (Bool × Sem Value)} {Q : Args → Shared → Prop} (hp : args.any (·.1) = false)
    (h : wpAny (MO w) A (spliced args) (fun vs s' => Q ⟨vs, []⟩ s') E s) : wpAny (MO w) A (evalArgs f true args []) Q E s := by
  cases args with
  | nil =>
    unfold evalArgs
    show wpAny _ A (spliced [] >>= _) Q E s
    refine wpAny_bind (wpAny_mono h (fun vs s' h' => ?_) fun _ _ e => e)
    exact wpAny_bind (wpAny_pure (wpAny_holding (wpAny_bind (wpAny_pure (wpAny_bind (wpAny_pure (wpAny_pure h')))))))
  | cons a r =>
    obtain ⟨b, x⟩ := a
    simp only [List.any_cons, Bool.or_eq_false_iff] at hp
    obtain ⟨hb, _⟩ := hp
    cases (hb : b = false)
    exact evalArgs_plain h

/-- a call of what a name holds -/
theorem Ev.call {func : Expr} {args : List Expr} {fv : Value} {vs : List AVal} {H' : List AObj} (hf : Ev w b₀ n cx func st (.val fv) st1) (hk : CallForm fv b₀ w) (ha : EvL w b₀ n cx args st1 vs st2)
    (hc : Cal w b₀ n (.val fv) vs st2.H v H') (hp : argsPlain args)
    (he : ∀ env, eval (.Call func args [] pos) env = (do callWith pos (← eval func env) [] (backTo pos (starEach args env)) (backToKw pos (keywordEach [] env))) := by intro _; rfl) :
    Ev w b₀ n cx (.Call func args [] pos) st v ⟨H', st2.loc⟩ := by
  intro A env E s ρ Q hR hE hB k
  refine Call_ (hf A env E s ρ _ hR hE hB fun s1 ρ1 u1 y1 hB1 hv1 => ?_) (he env)
  cases (hv1 : u1 = fv)
  refine callWith_of (P := fun h => ∀ b o, b₀.get? b = some o → h.get? b = some o) (by rw [hp]; rfl) hk (evalArgs_any (hp env pos) (ha A env E s1 ρ1 pos _ hR hE hB1 fun s2 ρ2 us y2 hB2 hvs => ⟨hB2.sim.stat, ?_⟩))
  exact hc A E s2 ρ2 _ _ _ hR hB2.sim rfl hvs fun s3 ρ3 r y3 hS3 hr => k _ _ _ ((y1.trans y2).trans y3.nil) (hB2.step y3 hS3) hr

/- instances -/
theorem key_is {e : DictEntry} {p : Str × AVal} {x : Str} {t : Tok} (ek : e.key = .str p.1 t) : e.key.isStr x = decide (p.1 = x) := by
  rw [ek]
  show (p.1 == x) = _
  by_cases h : p.1 = x <;> simp [h]
theorem ER.find {ρ : List Addr} {x : Str} {vs : List (Str × AVal)} {es : List DictEntry} (h : ER ρ vs es) :
    (match aget vs x with | some v => ∃ e, es.find? (·.key.isStr x) = some e ∧ VR ρ v e.val | none => es.find? (·.key.isStr x) = none) := by
  refine h.ind (P := fun vs es => match aget vs x with | some v => ∃ e, es.find? (·.key.isStr x) = some e ∧ VR ρ v e.val | none => es.find? (·.key.isStr x) = none) rfl fun p vs e es t ek hv _ ih => ?_
  simp only [aget, List.find?_cons] at ih ⊢
  rw [key_is ek]
  by_cases h : p.1 = x
  · simp only [h, decide_true, Option.map_some]; exact ⟨e, rfl, hv⟩
  · simp only [h, decide_false]; exact ih
theorem ER.noRef {ρ : List Addr} {vs : List (Str × AVal)} {es : List DictEntry} (h : ER ρ vs es) : es.any (·.refKey) = false := by
  refine h.ind (P := fun _ es => es.any (·.refKey) = false) rfl fun p vs e es t ek hv _ ih => ?_
  rw [List.any_cons, ih]
  simp [DictEntry.refKey, ek]
theorem ER.look {ρ : List Addr} {x : Str} {vs : List (Str × AVal)} {es : List DictEntry} {m : Nat} (h : ER ρ vs es) :
    (match aget vs x with | some v => ∃ u, lookIn x (dictOf es m) = some (some u) ∧ VR ρ v u | none => lookIn x (dictOf es m) = some none) := by
  have h1 := h.find (x := x)
  unfold lookIn
  cases hx : aget vs x with
  | some v =>
    rw [hx] at h1
    obtain ⟨e, he, hv⟩ := h1
    exact ⟨e.val, by dsimp only [dictOf]; rw [he], hv⟩
  | none =>
    rw [hx] at h1
    dsimp only [dictOf]
    have h1 : es.find? (·.key.isStr x) = none := h1
    rw [h1, h.noRef]; rfl
def nput : List (Str × AVal) → Str → AVal → List (Str × AVal)
  | [], x, v => [(x, v)]
  | p :: r, x, v => if p.1 = x then (p.1, v) :: r else p :: nput r x v
theorem ER.put {ρ : List Addr} {x : Str} {v : AVal} {u : Value} {hsh : Int} {t : Tok} (hu : VR ρ v u) {vs : List (Str × AVal)} {es : List DictEntry} (h : ER ρ vs es) : ER ρ (nput vs x v) (putL x hsh (.str x t) u es) := by
  refine h.ind (P := fun vs es => ER ρ (nput vs x v) (putL x hsh (.str x t) u es)) ⟨⟨⟨t, rfl⟩, hu⟩, trivial⟩ fun p vs e es t' ek hv b ih => ?_
  simp only [nput, putL, key_is ek]
  by_cases h : p.1 = x
  · simp only [h, decide_true, if_true]; exact ⟨⟨⟨t', by rw [ek, h]⟩, hu⟩, b⟩
  · simp only [h, decide_false, if_false, Bool.false_eq_true]; exact ⟨⟨⟨t', ek⟩, hv⟩, ih⟩

/-- what the class must be for its objects to be plain -/
structure PlainCls (K : Frag) (C : Addr) (cd : ClassData) : Prop where
  cls : clsIn K C = some cd
  hasDict : cd.hasDict = true
  ga : findIn K (.ref C) "__getattribute__" = some (some (.builtin "object.__getattribute__"))
  gattr : findIn K (.ref C) "__getattr__" = some none
  sattr : findIn K (.ref C) "__setattr__" = some (some (.builtin "object.__setattr__"))
  plain : plainOver K C = true

theorem inst_at {ρ : List Addr} {h : Heap} {i d C : Nat} {kvs : List (Str × AVal)} {u : Value} (S : Sim w b₀ ρ H h) (hu : VR ρ (.ref i) u) (hi : H[i]? = some (.inst C d)) (hd : H[d]? = some (.ns kvs)) :
    ∃ a dx es m, u = .ref a ∧ ρ[i]? = some a ∧ ρ[d]? = some dx ∧ h.get? a = some (instObj C dx) ∧ h.get? dx = some (dictOf es m) ∧ ER ρ kvs es ∧ InstAt h a (instObj C dx) C (some (dictOf es m)) := by
  obtain ⟨a, rfl, ha, dx, hdx, hg⟩ := S.ref hu hi
  obtain ⟨dx', hdx', es, m, hg', he⟩ := S.objs d _ hd
  rw [hdx] at hdx'; cases hdx'
  exact ⟨a, dx, es, m, rfl, ha, hdx, hg, hg', he, ⟨hg, rfl, rfl, hg'⟩⟩

theorem Sim.inn {ρ : List Addr} {h : Heap} (S : Sim w b₀ ρ H h) (G : Glo K b₀) : K.In h := fun a o e => S.stat a o (G.inn a o e)

theorem handed_vr {ρ : List Addr} {v : AVal} {u : Value} (h : VR ρ v u) (hv : ∀ x, v ≠ .val x) : handedIn u = true := by
  cases v with
  | none => cases (h : u = _); rfl
  | bool b => cases (h : u = _); rfl
  | int i => obtain ⟨t, rfl⟩ := h; rfl
  | str s => obtain ⟨t, rfl⟩ := h; rfl
  | ref i => obtain ⟨a, _, rfl⟩ := h; rfl
  | val x => exact absurd rfl (hv x)

/-- what an object keeps of its own -/
theorem Ev.attr {o : Expr} {i d C : Nat} {cd : ClassData} {kvs : List (Str × AVal)} {attr : Str} (G : Glo K b₀) (P : PlainCls K C cd) (ho : Ev w b₀ n cx o st (.ref i) st1) (hi : st1.H[i]? = some (.inst C d)) (hd : st1.H[d]? = some (.ns kvs))
    (hn : findIn K (.ref C) attr = some none) (hv : aget kvs attr = some v) (hv' : ∀ x, v ≠ .val x)
    (he : ∀ env, eval (.Attribute o attr pos) env = (do
      let ov ← eval o env
      standAt pos.atName
      let r ← holding [ov] (getAttr ov attr true)
      letTemporaryGo o ov r
      pure r) := by intro _; with_unfolding_all rfl) : Ev w b₀ n cx (.Attribute o attr pos) st v st1 := by
  intro A env E s ρ Q hR hE hB k
  refine Attribute_any_ (ho A env E s ρ _ hR hE hB fun s1 ρ1 u1 y1 hB1 hv1 => ?_) (he env)
  obtain ⟨a, dx, es, m, rfl, ha, hdx, hga, hgd, hes, hI⟩ := inst_at hB1.sim hv1 hi hd
  have hl := hes.look (x := attr) (m := m)
  rw [hv] at hl
  obtain ⟨u, hu, hvu⟩ := hl
  refine get_value (hB1.sim.inn G) hI P.ga (v := u) ?_ (handed_vr hvu hv') ?_
  · unfold findObj
    simp only [P.cls, hn, Option.bind_some, W.ownOf, P.hasDict, if_true, hu]
  · exact k _ _ _ (y1.trans (Stp.toks _)) (hB1.toks _) hvu

/-- a method of the class -/
theorem Ev.meth {o : Expr} {args : List Expr} {name : Str} {i d C f : Nat} {cd : ClassData} {kvs : List (Str × AVal)} {vs : List AVal} {H' : List AObj} (G : Glo K b₀) (P : PlainCls K C cd) (ho : Ev w b₀ n cx o st (.ref i) st1)
    (hi : st1.H[i]? = some (.inst C d)) (hd : st1.H[d]? = some (.ns kvs)) (hf : findIn K (.ref C) name = some (some (.ref f))) (ht : typeIn K (.ref f) = some (.type "function")) (hkp : keepIn K (.ref f) = true) (hn : aget kvs name = none)
    (ha : EvL w b₀ n cx args st1 vs st2) (hc : Cal w b₀ n (.val (.ref f)) (.ref i :: vs) st2.H v H') (hp : argsPlain args) (hm : MethForm o name apos args pos) :
    Ev w b₀ n cx (.Call (.Attribute o name apos) args [] pos) st v ⟨H', st2.loc⟩ := by
  intro A env E s ρ Q hR hE hB k
  refine methodCall_KW (pl := do return (← importBound o env).getD true) (ho A env E s ρ _ hR hE hB fun s1 ρ1 u1 y1 hB1 hv1 => ?_) (hm env)
  obtain ⟨a, dx, es, m, rfl, ha1, hdx, hga, hgd, hes, hI⟩ := inst_at hB1.sim hv1 hi hd
  have hl := hes.look (x := name) (m := m)
  rw [hn] at hl
  refine method_fn (hB1.sim.inn G) hI P.ga P.gattr hf ht (by show (lookIn name (dictOf es m)).map _ = _; rw [show lookIn name (dictOf es m) = some none from hl]; rfl) ?_
  refine callWith_of (P := fun h => ∀ b o, b₀.get? b = some o → h.get? b = some o) (by rw [hp]; rfl) (callForm_K G hkp) (evalArgs_any (hp env pos) (ha A env E s1 ρ1 pos _ hR hE hB1 fun s2 ρ2 us y2 hB2 hvs => ⟨hB2.sim.stat, ?_⟩))
  exact hc A E s2 ρ2 _ _ _ hR hB2.sim rfl ⟨y2.vr hv1, hvs⟩ fun s3 ρ3 r y3 hS3 hr => k _ _ _ ((y1.trans y2).trans y3.nil) (hB2.step y3 hS3) hr
end

def upd (loc : Str → Option AVal) (x : Str) (v : AVal) : Str → Option AVal := fun y => if y = x then some v else loc y

section
variable {w : World} {b₀ : Heap} {n : Nat} {cx : Cx} {st st1 st2 st3 : ASt} {v v1 v2 v3 : AVal} {pos apos : Pos} {x : Str} {K : Frag} {H : List AObj} {f : AFlow}

theorem Exs.nil : Exs w b₀ n cx [] st .next st := by
  intro A env E s ρ Q hR hE hB k
  exact wpAny_execs_nil (k _ _ _ Stp.refl hB rfl)
theorem Exs.cons {t : Stmt} {ts : List Stmt} (h1 : Ex w b₀ n cx t st .next st1) (h2 : Exs w b₀ n cx ts st1 f st2) : Exs w b₀ n cx (t :: ts) st f st2 := by
  intro A env E s ρ Q hR hE hB k
  refine wpAny_execs_cons (h1 A env E s ρ _ hR hE hB fun s1 ρ1 u1 y1 hB1 hv1 => ?_)
  cases (hv1 : u1 = .next)
  exact h2 A env E s1 ρ1 _ hR hE hB1 fun s2 ρ2 u2 y2 hB2 hv2 => k _ _ _ (y1.trans y2) hB2 hv2
theorem Exs.ret {t : Stmt} {ts : List Stmt} (h1 : Ex w b₀ n cx t st (.ret v) st1) : Exs w b₀ n cx (t :: ts) st (.ret v) st1 := by
  intro A env E s ρ Q hR hE hB k
  refine wpAny_execs_cons (h1 A env E s ρ _ hR hE hB fun s1 ρ1 u1 y1 hB1 hv1 => ?_)
  obtain ⟨u, rfl, hu⟩ := hv1
  exact k _ _ _ y1 hB1 ⟨u, rfl, hu⟩
theorem Exs.brk {t : Stmt} {ts : List Stmt} (h1 : Ex w b₀ n cx t st .brk st1) : Exs w b₀ n cx (t :: ts) st .brk st1 := by
  intro A env E s ρ Q hR hE hB k
  refine wpAny_execs_cons (h1 A env E s ρ _ hR hE hB fun s1 ρ1 u1 y1 hB1 hv1 => ?_)
  cases (hv1 : u1 = .brk)
  exact k _ _ _ y1 hB1 rfl
theorem Ex.ret {e : Expr} (h : Ev w b₀ n cx e st v st1) : Ex w b₀ n cx (.Return (some e) pos) st (.ret v) st1 := by
  intro A env E s ρ Q hR hE hB k
  exact wpAny_Return_some (h A env E s ρ _ hR hE hB fun s1 ρ1 u1 y1 hB1 hv1 => k _ _ _ y1 hB1 ⟨u1, rfl, hv1⟩)
theorem Ex.brk : Ex w b₀ n cx (.Break pos) st .brk st := by
  intro A env E s ρ Q hR hE hB k
  exact wpAny_Break (k _ _ _ Stp.refl hB rfl)
theorem Ex.if_t {t : Expr} {b o : List Stmt} (ht : Tr w b₀ n cx t st true st1) (hb : Exs w b₀ n cx b st1 f st2) : Ex w b₀ n cx (.If t b o pos) st f st2 := by
  intro A env E s ρ Q hR hE hB k
  refine wpAny_If (ht A env E s ρ _ hR hE hB fun s1 ρ1 u1 y1 hB1 hv1 => ?_)
  cases (hv1 : u1 = true)
  exact hb A env E s1 ρ1 _ hR hE hB1 fun s2 ρ2 u2 y2 hB2 hv2 => k _ _ _ (y1.trans y2) hB2 hv2
theorem Ex.if_f {t : Expr} {b o : List Stmt} (ht : Tr w b₀ n cx t st false st1) (hb : Exs w b₀ n cx o st1 f st2) : Ex w b₀ n cx (.If t b o pos) st f st2 := by
  intro A env E s ρ Q hR hE hB k
  refine wpAny_If (ht A env E s ρ _ hR hE hB fun s1 ρ1 u1 y1 hB1 hv1 => ?_)
  cases (hv1 : u1 = false)
  exact hb A env E s1 ρ1 _ hR hE hB1 fun s2 ρ2 u2 y2 hB2 hv2 => k _ _ _ (y1.trans y2) hB2 hv2
theorem Ex.expr {e : Expr} (h : Ev w b₀ n cx e st v st1) (hs : ∀ env, swapsWith e none pos.line env = pure false := by intro _; rfl) : Ex w b₀ n cx (.Expr e pos) st .next st1 := by
  intro A env E s ρ Q hR hE hB k
  refine wpAny_Expr_any (h A env E s ρ _ hR hE hB fun s1 ρ1 u1 y1 hB1 hv1 => k _ _ _ y1 hB1 rfl) ?_ (hs env)
  unfold interactive
  rw [hE.k]; rfl

/- stores -/
theorem store_local {A : Around} {env : Env} {E : Value → Shared → Prop} {s : Shared} {ρ : List Addr} {Q : Unit → Shared → Prop} {u : Value} (hE : EnvOK cx env) (hB : Bel w b₀ env st ρ s) (hk : cx.sc.names.lookup x = some .local) (hc : x ∉ cx.cn) (hv : VR ρ v u)
    (k : ∀ s', Stp (owns env) ρ ρ s s' → Bel w b₀ env { st with loc := upd st.loc x v } ρ s' → Q () s') : wpAny (MO w) A (storeName env x u) Q E s := by
  have hk' : env.kindOf x = some .local := (hE.kindOf x).trans hk
  obtain ⟨m, hn, hm⟩ := hB.loc.ns
  have hL : env.locals ∈ owns env := List.mem_cons_self
  refine wpAny_storeName_local hk' hn (fun h' hn' hs => ?_) hE.notClass
  have hkeep : ∀ b o, b ≠ env.locals → s.heap.get? b = some o → h'.get? b = some o := fun b o hb e => (hs.2 b hb).trans e
  refine k _ ⟨⟨[], by simp, by simp⟩, Nat.le_of_eq hs.1.symm, fun b o h1 _ e => hkeep b o (fun q => h1 (q ▸ hL)) e, rfl⟩ ⟨⟨hB.sim.len, hB.sim.nodup, fun i o hi => ?_, hB.sim.fresh, fun b o e => hkeep b o ?_ (hB.sim.stat b o e), by show _ ≤ h'.objs.size; rw [hs.1]; exact hB.sim.base⟩, ?_⟩
  · obtain ⟨a, ha, ho⟩ := hB.sim.objs i o hi
    exact ⟨a, ha, ho.keep fun ob e => hkeep a ob (fun q => (hB.loc.off _ hL).1 (q ▸ List.mem_of_getElem? ha)) e⟩
  · rintro rfl
    exact Nat.lt_irrefl _ (Nat.lt_of_lt_of_le (Heap.lt_size e) (hB.loc.off _ hL).2)
  · refine ⟨⟨_, hn', fun z v' hz hzk => ?_⟩, fun z c hzc => ?_, hB.loc.off, hB.loc.apart, fun a ha => by show a < h'.objs.size; rw [hs.1]; exact hB.loc.there a ha⟩
    · by_cases e : z = x
      · subst e
        simp only [upd, if_true] at hz ⊢
        cases hz
        exact ⟨u, rfl, hv⟩
      · simp only [upd, if_neg e] at hz ⊢
        exact hm z v' hz hzk
    · obtain ⟨ov, ⟨o, ho, hd⟩, h2⟩ := hB.loc.cells z c hzc
      have hmem : (z, c) ∈ env.cells := mem_of_lookup hzc
      have hcL : c ≠ env.locals := by
        have := hB.loc.apart
        unfold owns at this
        rw [List.nodup_cons] at this
        rintro rfl
        exact this.1 (List.mem_map.mpr ⟨_, hmem, rfl⟩)
      refine ⟨ov, ⟨o, hkeep c o hcL ho, hd⟩, fun v' hv' => ?_⟩
      have hzx : z ≠ x := by
        rintro rfl
        exact hc (hE.cells ▸ List.mem_map.mpr ⟨_, hmem, rfl⟩)
      simp only [upd, if_neg hzx] at hv'
      exact h2 v' hv'

theorem store_cell {A : Around} {env : Env} {E : Value → Shared → Prop} {s : Shared} {ρ : List Addr} {Q : Unit → Shared → Prop} {u : Value} (hE : EnvOK cx env) (hB : Bel w b₀ env st ρ s) (hk : cx.sc.names.lookup x = some .cell) (hc : x ∈ cx.cn) (hnd : cx.cn.Nodup) (hv : VR ρ v u)
    (k : ∀ s', Stp (owns env) ρ ρ s s' → Bel w b₀ env { st with loc := upd st.loc x v } ρ s' → Q () s') : wpAny (MO w) A (storeName env x u) Q E s := by
  have hk' : env.kindOf x = some .cell := (hE.kindOf x).trans hk
  obtain ⟨c, hc'⟩ := lookup_of_cn (x := x) (l := env.cells) (hE.cells ▸ hc)
  have hmem : (x, c) ∈ env.cells := mem_of_lookup hc'
  have hcm : c ∈ owns env := List.mem_cons_of_mem _ (List.mem_map.mpr ⟨_, hmem, rfl⟩)
  obtain ⟨ov, hcell, hval⟩ := hB.loc.cells x c hc'
  have hap := hB.loc.apart
  unfold owns at hap
  rw [List.nodup_cons] at hap
  refine wpAny_storeName_cell hE.k hk' hc' hcell fun h' hcell' hs => ?_
  have hkeep : ∀ b o, b ≠ c → s.heap.get? b = some o → h'.get? b = some o := fun b o hb e => (hs.2 b hb).trans e
  refine k _ ⟨⟨[], by simp, by simp⟩, Nat.le_of_eq hs.1.symm, fun b o h1 _ e => hkeep b o (fun q => h1 (q ▸ hcm)) e, rfl⟩ ⟨⟨hB.sim.len, hB.sim.nodup, fun i o hi => ?_, hB.sim.fresh, fun b o e => hkeep b o ?_ (hB.sim.stat b o e), by show _ ≤ h'.objs.size; rw [hs.1]; exact hB.sim.base⟩, ?_⟩
  · obtain ⟨a, ha, ho⟩ := hB.sim.objs i o hi
    exact ⟨a, ha, ho.keep fun ob e => hkeep a ob (fun q => (hB.loc.off _ hcm).1 (q ▸ List.mem_of_getElem? ha)) e⟩
  · rintro rfl
    exact Nat.lt_irrefl _ (Nat.lt_of_lt_of_le (Heap.lt_size e) (hB.loc.off _ hcm).2)
  · refine ⟨?_, fun z c2 hzc => ?_, hB.loc.off, hB.loc.apart, fun a ha => by show a < h'.objs.size; rw [hs.1]; exact hB.loc.there a ha⟩
    · obtain ⟨m, ⟨o, es, ep, ho, r⟩, hm⟩ := hB.loc.ns
      refine ⟨m, ⟨o, es, ep, hkeep _ _ ?_ ho, r⟩, fun z v' hz hzk => ?_⟩
      · rintro e; exact hap.1 (e ▸ List.mem_map.mpr ⟨_, hmem, rfl⟩)
      · have hzx : z ≠ x := by rintro rfl; rw [hk'] at hzk; cases hzk
        simp only [upd, if_neg hzx] at hz
        exact hm z v' hz hzk
    · by_cases e : z = x
      · subst e
        rw [hc'] at hzc; cases hzc
        refine ⟨some u, hcell', fun v' hv' => ?_⟩
        simp only [upd, if_true] at hv'
        cases hv'
        exact ⟨u, rfl, hv⟩
      · obtain ⟨ov2, ⟨o, ho, hd⟩, h2⟩ := hB.loc.cells z c2 hzc
        have hmem2 : (z, c2) ∈ env.cells := mem_of_lookup hzc
        have hne : c2 ≠ c := by
          rintro rfl
          exact e (by
            have hnd2 : (env.cells.map (·.2)).Nodup := hap.2
            obtain ⟨i, hi, ei⟩ := List.getElem_of_mem hmem
            obtain ⟨j, hj, ej⟩ := List.getElem_of_mem hmem2
            have h1 : (env.cells.map (·.2))[i]? = some c2 := by rw [List.getElem?_map, List.getElem?_eq_getElem hi, ei]; rfl
            have h2 : (env.cells.map (·.2))[j]? = some c2 := by rw [List.getElem?_map, List.getElem?_eq_getElem hj, ej]; rfl
            have hij : i = j := (List.getElem?_inj (by simpa using hi) hnd2).mp (h1.trans h2.symm)
            subst hij
            rw [ei] at ej
            exact (Prod.mk.inj ej).1.symm)
        refine ⟨ov2, ⟨o, hkeep c2 o hne ho, hd⟩, fun v' hv' => ?_⟩
        simp only [upd, if_neg e] at hv'
        exact h2 v' hv'

theorem Ex.assign {e : Expr} {p : Pos} (h : Ev w b₀ n cx e st v st1) (hk : cx.sc.names.lookup x = some .local) (hc : x ∉ cx.cn) (hs : ∀ env, swapsWith e (some (.Name x p)) pos.line env = pure false := by intro _; rfl) :
    Ex w b₀ n cx (.Assign [.Name x p] e pos) st .next { st1 with loc := upd st1.loc x v } := by
  intro A env E s ρ Q hR hE hB k
  refine wpAny_Assign_Name (h A env E s ρ _ hR hE hB fun s1 ρ1 u1 y1 hB1 hv1 => ?_) (hs env)
  exact store_local hE hB1 hk hc hv1 fun s2 y2 hB2 => k _ _ _ (y1.trans y2) hB2 rfl
theorem Ex.assignC {e : Expr} {p : Pos} (h : Ev w b₀ n cx e st v st1) (hk : cx.sc.names.lookup x = some .cell) (hc : x ∈ cx.cn) (hnd : cx.cn.Nodup) (hs : ∀ env, EnvOK cx env → swapsWith e (some (.Name x p)) pos.line env = pure false) :
    Ex w b₀ n cx (.Assign [.Name x p] e pos) st .next { st1 with loc := upd st1.loc x v } := by
  intro A env E s ρ Q hR hE hB k
  refine wpAny_Assign_Name (h A env E s ρ _ hR hE hB fun s1 ρ1 u1 y1 hB1 hv1 => ?_) (hs env hE)
  exact store_cell hE hB1 hk hc hnd hv1 fun s2 y2 hB2 => k _ _ _ (y1.trans y2) hB2 rfl
theorem Ex.aug {e : Expr} {p : Pos} {op : Operator} {H' : List AObj} (hv0 : st.loc x = some v1) (hk : cx.sc.names.lookup x = some .local) (hc : x ∉ cx.cn) (h : Ev w b₀ n cx e st v2 st1) (ho : Op2 w b₀ n (inplaceOp op) VR v1 v2 st1.H v H') :
    Ex w b₀ n cx (.AugAssign (.Name x p) op e pos) st .next ⟨H', upd st1.loc x v⟩ := by
  intro A env E s ρ Q hR hE hB k
  have hk' : env.kindOf x = some .local := (hE.kindOf x).trans hk
  obtain ⟨m, hn, hm⟩ := hB.loc.ns
  obtain ⟨u, hu, hvr⟩ := hm x v1 hv0 hk'
  refine wpAny_AugAssign_Name (wpAny_loadName_local hE.k hk' hn hu (h A env E s ρ _ hR hE hB fun s1 ρ1 u1 y1 hB1 hv1 => ?_))
  refine ho A E s1 ρ1 _ _ _ hR hB1.sim (y1.vr hvr) hv1 fun s2 ρ2 r y2 hS2 hr => ?_
  exact store_local (st := ⟨H', st1.loc⟩) hE (hB1.step y2 hS2) hk hc hr fun s3 y3 hB3 => k _ _ _ ((y1.trans y2.nil).trans y3) hB3 rfl
theorem Ex.setItem {o i e : Expr} {p : Pos} {H' : List AObj} (he : Ev w b₀ n cx e st v1 st1) (ho : Ev w b₀ n cx o st1 v2 st2) (hi : Ev w b₀ n cx i st2 v3 st3) (hs3 : Op3 w b₀ n setItem (fun _ (_ : Unit) (_ : Unit) => True) v2 v3 v1 st3.H () H')
    (hs : ∀ env, swapsWith e (some (.Subscript o i p)) pos.line env = pure false := by intro _; rfl) : Ex w b₀ n cx (.Assign [.Subscript o i p] e pos) st .next ⟨H', st3.loc⟩ := by
  intro A env E s ρ Q hR hE hB k
  refine wpAny_Assign_Subscript (he A env E s ρ _ hR hE hB fun s1 ρ1 u1 y1 hB1 hv1 => ho A env E s1 ρ1 _ hR hE hB1 fun s2 ρ2 u2 y2 hB2 hv2 => hi A env E s2 ρ2 _ hR hE hB2 fun s3 ρ3 u3 y3 hB3 hv3 => ?_) (hs env)
  exact hs3 A E s3 ρ3 _ _ _ _ hR hB3.sim (y3.vr hv2) hv3 (y3.vr (y2.vr hv1)) fun s4 ρ4 _ y4 hS4 _ => k _ _ _ (((y1.trans y2).trans y3).trans y4.nil) (hB3.step y4 hS4) rfl

/- a step of the loops -/
theorem letgo_any {M : Model} {A : Around} {E : Value → Shared → Prop} {s : Shared} {tgt : Expr} {it : Addr} {u : Value} {o : Obj} {cls : String} {vs : Array Value} {Q : Unit → Shared → Prop} (ho : s.heap.get? it = some o) (hc : o.cls = .type cls) (hd : o.data = .fields vs)
    (hn : (["enumerate", "zip", "dict_itemiterator", "dict_reverseitemiterator", "odict_iterator", "itertools.zip_longest", "itertools.pairwise"] : List String).contains cls = false) (h : Q () s) : wpAny M A (letOwnedTupleGo tgt (.ref it) u) Q E s := by
  have go : ∀ a : Addr, wpAny M A (do
      let o ← load it
      match o.cls, o.data with
      | .type n, .fields vs =>
        if ["enumerate", "zip", "dict_itemiterator", "dict_reverseitemiterator", "odict_iterator", "itertools.zip_longest", "itertools.pairwise"].contains n && vs[0]? == some (rawInt a) then
          rule "for.unpacks-the-owned-tuple"
          updateField it 0 .none
      | _, _ => pure ()) Q E s := fun a => by
    refine wpAny_bind (wpAny_load ho ?_)
    rw [hc, hd]
    dsimp only
    rw [hn, Bool.false_and, if_neg Bool.false_ne_true]
    exact wpAny_pure h
  unfold letOwnedTupleGo
  split
  · cases u <;> first | exact wpAny_pure h | exact go _
  · cases u <;> first | exact wpAny_pure h | exact go _
  · exact wpAny_pure h

/-- what a for goes over -/
structure Prot (w : World) (b₀ : Heap) where
  items : List AVal
  St : Nat → List Addr → Heap → Addr → Prop
  B : List AObj → Prop
  next : ∀ (k : Nat) (A : Around) (E : Value → Shared → Prop) (s : Shared) (ρ : List Addr) (H : List AObj) (it : Addr) (Q : Option Value → Shared → Prop), Room 0 A → Sim w b₀ ρ H s.heap → it ∉ ρ → B H → St k ρ s.heap it →
    (∀ v, items[k]? = some v → ∀ u h' t, VR ρ v u → Heap.SameBut it s.heap h' → St (k + 1) ρ h' it → Q (some u) { s with heap := h', toks := t }) →
    (items[k]? = none → ∀ h', Heap.ExtBut it s.heap h' → s.heap.objs.size ≤ h'.objs.size → Q none { s with heap := h' }) → wpAny (MO w) A (pyNext (.ref it)) Q E s
  keep : ∀ (k : Nat) (ρ l : List Addr) (h h' : Heap) (it : Addr), St k ρ h it → (∀ o, h.get? it = some o → h'.get? it = some o) → St k (ρ ++ l) h' it
  obj : ∀ (k : Nat) (ρ : List Addr) (h : Heap) (it : Addr), St k ρ h it → ∃ o cls vs, h.get? it = some o ∧ o.cls = .type cls ∧ o.data = .fields vs ∧
    (["enumerate", "zip", "dict_itemiterator", "dict_reverseitemiterator", "odict_iterator", "itertools.zip_longest", "itertools.pairwise"] : List String).contains cls = false

def As (w : World) (b₀ : Heap) (n : Nat) (cx : Cx) (tgt : Expr) (v : AVal) (st st' : ASt) : Prop :=
  ∀ (A : Around) (env : Env) (E : Value → Shared → Prop) (s : Shared) (ρ : List Addr) (u : Value) (Q : Unit → Shared → Prop), Room n A → EnvOK cx env → Bel w b₀ env st ρ s → VR ρ v u →
    (∀ s' ρ', Stp (owns env) ρ ρ' s s' → Bel w b₀ env st' ρ' s' → Q () s') → wpAny (MO w) A (PySem.assign tgt env u) Q E s
theorem As.name {p : Pos} (hk : cx.sc.names.lookup x = some .local) (hc : x ∉ cx.cn) : As w b₀ n cx (.Name x p) v st { st with loc := upd st.loc x v } := by
  intro A env E s ρ u Q hR hE hB hv k
  exact wpAny_assign_Name (store_local hE hB hk hc hv fun s2 y2 hB2 => k _ _ y2 hB2)
theorem As.pair {x y : Str} {p1 p2 p : Pos} {kd : Nat} {i : Nat} (hi : st.H[i]? = some (.tup [v1, v2])) (hk : cx.sc.names.lookup x = some .local) (hc : x ∉ cx.cn) (hk2 : cx.sc.names.lookup y = some .local) (hc2 : y ∉ cx.cn) :
    As w b₀ n cx (.Tuple [.Name x p1, .Name y p2] kd p) (.ref i) st { st with loc := upd (upd st.loc x v1) y v2 } := by
  intro A env E s ρ u Q hR hE hB hv k
  obtain ⟨a, rfl, ha, us, ht, hvs⟩ := hB.sim.ref hv hi
  obtain ⟨u1, us1, rfl, h1, hvs⟩ := hvs.inv_cons
  obtain ⟨u2, us2, rfl, h2, hvs⟩ := hvs.inv_cons
  cases hvs.inv_nil
  rw [arm_assign_Tuple]
  refine wpAny_bind (wpAny_standAt ?_)
  rw [show assignEach [Expr.Name x p1, Expr.Name y p2] env = [(false, PySem.assign (.Name x p1) env), (false, PySem.assign (.Name y p2) env)] from rfl]
  unfold unpack
  have e1 : ([(false, PySem.assign (.Name x p1) env), (false, PySem.assign (.Name y p2) env)] : List (Bool × (Value → Sem Unit))).length = (List.toArray [u1, u2]).size := rfl
  have e2 : ([(false, PySem.assign (.Name x p1) env), (false, PySem.assign (.Name y p2) env)] : List (Bool × (Value → Sem Unit))).findIdx? (·.1) = none := rfl
  have e3 : ([(false, PySem.assign (.Name x p1) env), (false, PySem.assign (.Name y p2) env)] : List (Bool × (Value → Sem Unit))).map (·.2) = [PySem.assign (.Name x p1) env, PySem.assign (.Name y p2) env] := rfl
  rw [e1, e2, e3]
  refine wpAny_bind (wpAny_holding (with_size (wpAny_unpackItems_tuple hR.handled ht fun h' hx hz => ?_)))
  have hkeep : ∀ b ob, s.heap.get? b = some ob → h'.get? b = some ob := fun b ob e => hx b ob (Nat.ne_of_lt (Heap.lt_size e)) e
  obtain ⟨z1, z2⟩ := junk_step hB.sim hkeep hz s.toks
  have hB1 : Bel w b₀ env st ρ { s with heap := h' } := hB.step z1 z2
  have hpop : (List.toArray [u1, u2]).toList = [u1, u2] := rfl
  rw [hpop, assignInOrder]
  refine wpAny_bind (wpAny_holding (wpAny_assign_Name (store_local hE hB1 hk hc h1 fun s2 y2 hB2 => ?_)))
  rw [assignInOrder]
  refine wpAny_bind (wpAny_holding (wpAny_assign_Name (store_local hE hB2 hk2 hc2 (y2.vr h2) fun s3 y3 hB3 => ?_)))
  exact wpAny_pure (k _ _ ((z1.nil.trans y2).trans y3) hB3)

theorem Stp.dropFresh {own ρ ρ' : List Addr} {s s1 s' : Shared} {it : Addr} (h0 : Stp own ρ ρ s s1) (hit : s.heap.objs.size ≤ it) (h1 : Stp (it :: own) ρ ρ' s1 s') : Stp own ρ ρ' s s' := by
  obtain ⟨l, rfl, hl⟩ := h1.ext
  refine ⟨⟨l, rfl, fun a ha => Nat.le_trans h0.size (hl a ha)⟩, Nat.le_trans h0.size h1.size, fun b o hb hr e => h1.keep b o (fun q => ?_) hr (h0.keep b o hb hr e), by rw [h1.same, h0.same]⟩
  rcases List.mem_cons.mp q with rfl | q
  · exact Nat.lt_irrefl _ (Nat.lt_of_lt_of_le (Heap.lt_size e) hit)
  · exact hb q

/-- a loop's run over the items left -/
inductive Loop (w : World) (b₀ : Heap) (n : Nat) (cx : Cx) (B : List AObj → Prop) (tgt : Expr) (body : List Stmt) : List AVal → ASt → AFlow → ASt → Prop
  | nil {st : ASt} : B st.H → Loop w b₀ n cx B tgt body [] st .next st
  | next {v : AVal} {vs : List AVal} {st st1 st2 st3 : ASt} {f : AFlow} : B st.H → As w b₀ n cx tgt v st st1 → Exs w b₀ n cx body st1 .next st2 → Loop w b₀ n cx B tgt body vs st2 f st3 → Loop w b₀ n cx B tgt body (v :: vs) st f st3
  | brk {v : AVal} {vs : List AVal} {st st1 st2 : ASt} : B st.H → As w b₀ n cx tgt v st st1 → Exs w b₀ n cx body st1 .brk st2 → Loop w b₀ n cx B tgt body (v :: vs) st .next st2
  | ret {v r : AVal} {vs : List AVal} {st st1 st2 : ASt} : B st.H → As w b₀ n cx tgt v st st1 → Exs w b₀ n cx body st1 (.ret r) st2 → Loop w b₀ n cx B tgt body (v :: vs) st (.ret r) st2

theorem for_step {A : Around} {env : Env} {R : Result → Shared → Prop} {s : Shared} {tgt : Expr} {it : Addr} {body : List Stmt}
    (h : wpAny (MO w) A (pyNext (.ref it)) (fun r s₁ => match r with
      | none => R (.ok .next) s₁
      | some v => wpAny (MO w) A (letOwnedTupleGo tgt (.ref it) v) (fun _ s₁' => wpAny (MO w) A (PySem.assign tgt env v) (fun _ s₂ => wpAny (MO w) A (execs body env) (fun f s₃ => match f with
          | .next | .cont => codeAny (MO w) A (.forLoop tgt (.ref it) body [] env) R s₃
          | .brk => R (.ok .next) s₃
          | .ret v => R (.ok (.ret v)) s₃) (notedBy (MO w) A env fun e s' => R (.error e) s') s₂) (notedBy (MO w) A env fun e s' => R (.error e) s') s₁') (notedBy (MO w) A env fun e s' => R (.error e) s') s₁)
      (notedBy (MO w) A env fun e s' => R (.error e) s') s) : codeAny (MO w) A (.forLoop tgt (.ref it) body [] env) R s := by
  refine codeAny_of_tree ?_
  show wpAny _ A ((forTurn tgt (.ref it) body [] env).onRaise (fun x => do noteFrame x env; theTreesLotGoes x)) _ _ s
  refine wpAny_noted ?_
  simp only [forTurn]
  refine wpAny_bind (wpAny_standAt (wpAny_bind (wpAny_onRaise (wpAny_mono h (fun r s₁ h₁ => ?_) fun _ _ h' => wpAny_standAt h'))))
  cases r with
  | none => exact wpAny_pure ⟨rfl, codeAny_block (wpAny_execs_nil h₁)⟩
  | some v =>
    refine wpAny_bind (wpAny_mono h₁ (fun _ s₁' h₁' => wpAny_bind (wpAny_mono h₁' (fun _ s₂ h₂ => wpAny_bind (wpAny_mono h₂ (fun f s₃ h₃ => ?_) fun _ _ h' => h')) fun _ _ h' => h')) fun _ _ h' => h')
    cases f with
    | next => exact wpAny_pure ⟨rfl, h₃⟩
    | cont => exact wpAny_pure ⟨rfl, h₃⟩
    | brk => exact wpAny_pure h₃
    | ret v => exact wpAny_pure h₃

theorem iter_step {ρ : List Addr} {env : Env} {s : Shared} {it : Addr} {h' : Heap} (hB : Bel w b₀ env st ρ s) (hs : Heap.SameBut it s.heap h') (h1 : it ∉ ρ) (h2 : it ∉ owns env) (h3 : b₀.get? it = none) (t : Nat) :
    Stp [it] ρ ρ s { s with heap := h', toks := t } ∧ Bel w b₀ env st ρ { s with heap := h', toks := t } := by
  have hk : ∀ b o, b ≠ it → s.heap.get? b = some o → h'.get? b = some o := fun b o hb e => (hs.2 b hb).trans e
  refine ⟨⟨⟨[], by simp, by simp⟩, Nat.le_of_eq hs.1.symm, fun b o hb _ e => hk b o (fun q => hb (q ▸ List.mem_singleton.mpr rfl)) e, rfl⟩, ⟨hB.sim.len, hB.sim.nodup, fun i o hi => ?_, hB.sim.fresh, fun b o e => hk b o (fun q => by rw [q, h3] at e; cases e) (hB.sim.stat b o e), by show _ ≤ h'.objs.size; rw [hs.1]; exact hB.sim.base⟩, ?_⟩
  · obtain ⟨a, ha, ho⟩ := hB.sim.objs i o hi
    exact ⟨a, ha, ho.keep fun ob e => hk a ob (fun q => h1 (q ▸ List.mem_of_getElem? ha)) e⟩
  · obtain ⟨m, ⟨o, es, ep, ho, r⟩, hm⟩ := hB.loc.ns
    refine ⟨⟨m, ⟨o, es, ep, hk _ _ (fun q => h2 (q ▸ List.mem_cons_self)) ho, r⟩, hm⟩, fun z c hz => ?_, hB.loc.off, hB.loc.apart, fun a ha => by show a < h'.objs.size; rw [hs.1]; exact hB.loc.there a ha⟩
    obtain ⟨ov, ⟨o, ho, hd⟩, h4⟩ := hB.loc.cells z c hz
    exact ⟨ov, ⟨o, hk _ _ (fun q => h2 (q ▸ List.mem_cons_of_mem _ (List.mem_map.mpr ⟨(z, c), mem_of_lookup hz, rfl⟩))) ho, hd⟩, h4⟩
theorem iter_end {ρ : List Addr} {env : Env} {s : Shared} {it : Addr} {h' : Heap} (hB : Bel w b₀ env st ρ s) (hs : Heap.ExtBut it s.heap h') (hz : s.heap.objs.size ≤ h'.objs.size) (h1 : it ∉ ρ) (h2 : it ∉ owns env) (h3 : b₀.get? it = none) (t : Nat) :
    Stp [it] ρ ρ s { s with heap := h', toks := t } ∧ Bel w b₀ env st ρ { s with heap := h', toks := t } := by
  have hk : ∀ b o, b ≠ it → s.heap.get? b = some o → h'.get? b = some o := fun b o hb e => hs b o hb e
  refine ⟨⟨⟨[], by simp, by simp⟩, hz, fun b o hb _ e => hk b o (fun q => hb (q ▸ List.mem_singleton.mpr rfl)) e, rfl⟩, ⟨hB.sim.len, hB.sim.nodup, fun i o hi => ?_, hB.sim.fresh, fun b o e => hk b o (fun q => by rw [q, h3] at e; cases e) (hB.sim.stat b o e), Nat.le_trans hB.sim.base hz⟩, ?_⟩
  · obtain ⟨a, ha, ho⟩ := hB.sim.objs i o hi
    exact ⟨a, ha, ho.keep fun ob e => hk a ob (fun q => h1 (q ▸ List.mem_of_getElem? ha)) e⟩
  · obtain ⟨m, ⟨o, es, ep, ho, r⟩, hm⟩ := hB.loc.ns
    refine ⟨⟨m, ⟨o, es, ep, hk _ _ (fun q => h2 (q ▸ List.mem_cons_self)) ho, r⟩, hm⟩, fun z c hz => ?_, hB.loc.off, hB.loc.apart, fun a ha => Nat.lt_of_lt_of_le (hB.loc.there a ha) hz⟩
    obtain ⟨ov, ⟨o, ho, hd⟩, h4⟩ := hB.loc.cells z c hz
    exact ⟨ov, ⟨o, hk _ _ (fun q => h2 (q ▸ List.mem_cons_of_mem _ (List.mem_map.mpr ⟨(z, c), mem_of_lookup hz, rfl⟩))) ho, hd⟩, h4⟩

theorem Loop.run (P : Prot w b₀) {tgt : Expr} {body : List Stmt} {vs : List AVal} (D : Loop w b₀ n cx P.B tgt body vs st f st1) : ∀ (k : Nat), P.items.drop k = vs → ∀ (A : Around) (env : Env) (s : Shared) (ρ : List Addr) (it : Addr) (R : Result → Shared → Prop),
    Room n A → EnvOK cx env → Bel w b₀ env st ρ s → P.St k ρ s.heap it → it ∉ ρ → it ∉ owns env → b₀.get? it = none → it < s.heap.objs.size →
    (∀ s' ρ' fl, Stp (it :: owns env) ρ ρ' s s' → Bel w b₀ env st1 ρ' s' → FR ρ' f fl → R (.ok fl) s') → codeAny (MO w) A (.forLoop tgt (.ref it) body [] env) R s := by
  have item : ∀ {k : Nat} {v : AVal} {vs : List AVal}, P.items.drop k = v :: vs → P.items[k]? = some v ∧ P.items.drop (k + 1) = vs := fun {k v vs} e => by
    have h1 := List.getElem?_drop (xs := P.items) (i := k) (j := 0)
    rw [e] at h1
    refine ⟨by simpa using h1.symm, ?_⟩
    have : P.items.drop (k + 1) = (P.items.drop k).drop 1 := by rw [List.drop_drop]
    rw [this, e]; rfl
  have sub : ∀ {env : Env} {it : Addr} (a : Addr), a ∈ owns env → a ∈ it :: owns env := fun a h => List.mem_cons_of_mem _ h
  have one : ∀ {env : Env} {it : Addr} (a : Addr), a ∈ [it] → a ∈ it :: owns env := fun a h => by rw [List.mem_singleton.mp h]; exact List.mem_cons_self
  have turn : ∀ {k : Nat} {v : AVal} {st st1 st2 : ASt} {A : Around} {env : Env} {s : Shared} {ρ : List Addr} {it : Addr} {R : Result → Shared → Prop} {fl0 : AFlow}, P.items[k]? = some v → P.B st.H → As w b₀ n cx tgt v st st1 → Exs w b₀ n cx body st1 fl0 st2 →
      Room n A → EnvOK cx env → Bel w b₀ env st ρ s → P.St k ρ s.heap it → it ∉ ρ → it ∉ owns env → b₀.get? it = none → it < s.heap.objs.size →
      (∀ s' ρ' fl, Stp (it :: owns env) ρ ρ' s s' → Bel w b₀ env st2 ρ' s' → FR ρ' fl0 fl → P.St (k + 1) ρ' s'.heap it → it ∉ ρ' → it < s'.heap.objs.size → (match fl with
          | .next | .cont => codeAny (MO w) A (.forLoop tgt (.ref it) body [] env) R s'
          | .brk => R (.ok .next) s'
          | .ret v => R (.ok (.ret v)) s')) → codeAny (MO w) A (.forLoop tgt (.ref it) body [] env) R s := by
    intro k v st st1 st2 A env s ρ it R fl0 hv hPB hAs hEx hR hE hB hSt hi1 hi2 hi3 hi4 kk
    refine for_step (P.next k A _ s ρ st.H it _ (hR.mono (Nat.zero_le _)) hB.sim hi1 hPB hSt (fun v' hv' u h' t hvu hs hSt' => ?_) (fun hn => by rw [hv] at hn; cases hn))
    rw [hv] at hv'; cases hv'
    obtain ⟨o, cls, fs, g1, g2, g3, g4⟩ := P.obj _ _ _ _ hSt'
    obtain ⟨y1, hB1⟩ := iter_step hB hs hi1 hi2 hi3 t
    refine letgo_any (s := { s with heap := h', toks := t }) g1 g2 g3 g4 ?_
    refine hAs A env _ _ ρ u _ hR hE hB1 (y1.vr hvu) fun s2 ρ2 y2 hB2 => ?_
    have hi1' : it ∉ ρ2 := by
      obtain ⟨l, rfl, hl⟩ := y2.ext
      rw [List.mem_append]
      rintro (q | q)
      · exact hi1 q
      · exact Nat.lt_irrefl _ (Nat.lt_of_lt_of_le (Heap.lt_size g1) (hl _ q))
    have hlt2 : it < s2.heap.objs.size := Nat.lt_of_lt_of_le (Heap.lt_size g1) y2.size
    have hSt2 : P.St (k + 1) ρ2 s2.heap it := by
      obtain ⟨l, rfl, hl⟩ := y2.ext
      exact P.keep _ _ _ _ _ _ hSt' fun o e => y2.keep it o hi2 hi1 e
    refine hEx A env _ s2 ρ2 _ hR hE hB2 fun s3 ρ3 fl y3 hB3 hfl => ?_
    have hi1'' : it ∉ ρ3 := by
      obtain ⟨l, rfl, hl⟩ := y3.ext
      rw [List.mem_append]
      rintro (q | q)
      · exact hi1' q
      · exact Nat.lt_irrefl _ (Nat.lt_of_lt_of_le hlt2 (hl _ q))
    have hSt3 : P.St (k + 1) ρ3 s3.heap it := by
      obtain ⟨l, rfl, hl⟩ := y3.ext
      exact P.keep _ _ _ _ _ _ hSt2 fun o e => y3.keep it o hi2 hi1' e
    exact kk _ _ _ (((y1.weaken one).trans (y2.weaken sub)).trans (y3.weaken sub)) hB3 hfl hSt3 hi1'' (Nat.lt_of_lt_of_le hlt2 y3.size)
  induction D with
  | nil hPB =>
    intro k hk A env s ρ it R hR hE hB hSt hi1 hi2 hi3 hi4 kk
    have hnone : P.items[k]? = none := List.getElem?_eq_none (by have := congrArg List.length hk; simp at this; omega)
    refine for_step (P.next k A _ s ρ _ it _ (hR.mono (Nat.zero_le _)) hB.sim hi1 hPB hSt (fun v' hv' => by rw [hnone] at hv'; cases hv') fun _ h' hs hz => ?_)
    obtain ⟨y1, hB1⟩ := iter_end hB hs hz hi1 hi2 hi3 s.toks
    exact kk _ _ _ (y1.weaken one) hB1 rfl
  | next hPB hAs hEx _ ih =>
    intro k hk A env s ρ it R hR hE hB hSt hi1 hi2 hi3 hi4 kk
    obtain ⟨hv, hd⟩ := item hk
    refine turn hv hPB hAs hEx hR hE hB hSt hi1 hi2 hi3 hi4 fun s' ρ' fl y hB' hfl hSt' hi1' hi4' => ?_
    cases (hfl : fl = .next)
    exact ih (k + 1) hd A env s' ρ' it R hR hE hB' hSt' hi1' hi2 hi3 hi4' fun s2 ρ2 fl2 y2 hB2 hfl2 => kk _ _ _ (y.trans y2) hB2 hfl2
  | brk hPB hAs hEx =>
    intro k hk A env s ρ it R hR hE hB hSt hi1 hi2 hi3 hi4 kk
    obtain ⟨hv, hd⟩ := item hk
    refine turn hv hPB hAs hEx hR hE hB hSt hi1 hi2 hi3 hi4 fun s' ρ' fl y hB' hfl hSt' hi1' hi4' => ?_
    cases (hfl : fl = .brk)
    exact kk _ _ _ y hB' rfl
  | ret hPB hAs hEx =>
    intro k hk A env s ρ it R hR hE hB hSt hi1 hi2 hi3 hi4 kk
    obtain ⟨hv, hd⟩ := item hk
    refine turn hv hPB hAs hEx hR hE hB hSt hi1 hi2 hi3 hi4 fun s' ρ' fl y hB' hfl hSt' hi1' hi4' => ?_
    obtain ⟨u, rfl, hu⟩ := hfl
    exact kk _ _ _ y hB' ⟨u, rfl, hu⟩

/-- the source of a loop -/
def Src (w : World) (b₀ : Heap) (n : Nat) (cx : Cx) (iter : Expr) (st : ASt) (P : Prot w b₀) (st' : ASt) : Prop :=
  ∀ (A : Around) (env : Env) (E : Value → Shared → Prop) (s : Shared) (ρ : List Addr) (Q : Value → Shared → Prop), Room n A → EnvOK cx env → Bel w b₀ env st ρ s →
    (∀ s' ρ' it, Stp (owns env) ρ ρ' s s' → Bel w b₀ env st' ρ' s' → P.St 0 ρ' s'.heap it → it ∉ ρ' → s.heap.objs.size ≤ it → it ∉ owns env → b₀.get? it = none → it < s'.heap.objs.size → Q (.ref it) s') →
    wpAny (MO w) A (eval iter env) (fun x s1 => wpAny (MO w) A (pyIter x) Q E s1) E s

theorem Ex.for_ {P : Prot w b₀} {tgt iter : Expr} {body : List Stmt} (hs : Src w b₀ n cx iter st P st1) (D : Loop w b₀ n cx P.B tgt body P.items st1 f st2) (hf : ∀ env x, foldedSetIterable iter env x = pure x := by intro _ _; rfl) :
    Ex w b₀ n cx (.For tgt iter body [] pos) st f st2 := by
  intro A env E s ρ Q hR hE hB k
  refine wpAny_For (hs A env E s ρ _ hR hE hB fun s1 ρ1 it y1 hB1 hSt h1 h2 h3 h4 h5 => ?_) (hf env)
  refine D.run P 0 (by simp) A env s1 ρ1 it _ hR hE hB1 hSt h1 h3 h4 h5 fun s2 ρ2 fl y2 hB2 hfl => ?_
  refine k _ _ _ ?_ hB2 hfl
  obtain ⟨l, rfl, hl⟩ := y1.ext
  obtain ⟨l', rfl, hl'⟩ := y2.ext
  refine ⟨⟨l ++ l', by simp, fun a ha => ?_⟩, Nat.le_trans y1.size y2.size, fun b o hb hr e => ?_, by rw [y2.same, y1.same]⟩
  · rcases List.mem_append.mp ha with q | q
    · exact hl a q
    · exact Nat.le_trans y1.size (hl' a q)
  · refine y2.keep b o (fun q => ?_) (fun q => ?_) (y1.keep b o hb hr e)
    · rcases List.mem_cons.mp q with rfl | q
      · exact Nat.lt_irrefl _ (Nat.lt_of_lt_of_le (Heap.lt_size e) h2)
      · exact hb q
    · rcases List.mem_append.mp q with q | q
      · exact hr q
      · exact Nat.lt_irrefl _ (Nat.lt_of_lt_of_le (Heap.lt_size e) (hl _ q))
end

section
variable {w : World} {b₀ : Heap} {n : Nat} {cx : Cx} {st st1 st2 st3 : ASt} {v v1 v2 v3 : AVal} {pos apos : Pos} {x : Str} {K : Frag} {H : List AObj} {f : AFlow}

def protL (w : World) (b₀ : Heap) (i : Nat) (vs : List AVal) : Prot w b₀ where
  items := vs
  St k ρ h it := ∃ a, ρ[i]? = some a ∧ h.IsListIter it a k
  B H := H[i]? = some (.list vs)
  next := by
    intro k A E s ρ H it Q hR hS hi hB hSt h1 h2
    obtain ⟨a, ha, hit⟩ := hSt
    obtain ⟨a', us, m, e, ha', hl, hv⟩ := hS.list ⟨a, ha, rfl⟩ hB
    cases e
    cases hk : vs[k]? with
    | some v =>
      obtain ⟨u, hu, hvu⟩ := hv.get hk
      exact wpAny_pyNext_list_item hit hl.isList (by simpa using hu) fun h' hit' hs => h1 v hk u h' s.toks hvu hs ⟨a, ha, hit'⟩
    | none =>
      have hn : (List.toArray us)[k]? = none := by
        have := List.getElem?_eq_none_iff.mp hk
        simp [hv.length, this]
      exact with_size (wpAny_pyNext_list_end hR.handled hit hl.isList hn fun h' hs hz => h2 hk h' hs hz)
  keep := by
    rintro k ρ l h h' it ⟨a, ha, o, ho, r⟩ hk
    exact ⟨a, by rw [List.getElem?_append_left (List.getElem?_eq_some_iff.mp ha).1]; exact ha, o, hk o ho, r⟩
  obj := by
    rintro k ρ h it ⟨a, ha, o, ho, hc, hd⟩
    exact ⟨o, _, _, ho, hc, hd, by decide +kernel⟩

def protR (w : World) (b₀ : Heap) (i : Nat) (vs : List AVal) : Prot w b₀ where
  items := vs.reverse
  St k ρ h it := ∃ a, ρ[i]? = some a ∧ k ≤ vs.length ∧ h.IsRevIter it a ((vs.length : Int) - 1 - (k : Int))
  B H := H[i]? = some (.list vs)
  next := by
    intro k A E s ρ H it Q hR hS hi hB hSt h1 h2
    obtain ⟨a, ha, hkl, hit⟩ := hSt
    obtain ⟨a', us, m, e, ha', hl, hv⟩ := hS.list ⟨a, ha, rfl⟩ hB
    cases e
    rcases Nat.lt_or_ge k vs.length with hlt | hge
    · have hk : vs.reverse[k]? = vs[vs.length - 1 - k]? := by rw [List.getElem?_reverse hlt]
      obtain ⟨v, hv0⟩ : ∃ v, vs[vs.length - 1 - k]? = some v := ⟨_, List.getElem?_eq_getElem (by omega)⟩
      obtain ⟨u, hu, hvu⟩ := hv.get hv0
      have ei : (vs.length : Int) - 1 - (k : Int) = ((vs.length - 1 - k : Nat) : Int) := by omega
      rw [ei] at hit
      refine wpAny_pyNext_rev_item hit hl.isList (by simpa using hu) fun h' hit' hs => h1 v (hk.trans hv0) u h' s.toks hvu hs ⟨a, ha, hlt, ?_⟩
      have e2 : ((vs.length - 1 - k : Nat) : Int) - 1 = (vs.length : Int) - 1 - ((k + 1 : Nat) : Int) := by omega
      rw [← e2]; exact hit'
    · have hkn : vs.reverse[k]? = none := by simp [hge]
      have e1 : (vs.length : Int) - 1 - (k : Int) = -1 := by omega
      rw [e1] at hit
      exact with_size (wpAny_pyNext_rev_end hR.handled hit fun h' hs hz => h2 hkn h' hs hz)
  keep := by
    rintro k ρ l h h' it ⟨a, ha, hkl, o, ho, r⟩ hk
    exact ⟨a, by rw [List.getElem?_append_left (List.getElem?_eq_some_iff.mp ha).1]; exact ha, hkl, o, hk o ho, r⟩
  obj := by
    rintro k ρ h it ⟨a, ha, hkl, o, ho, hc, hd⟩
    exact ⟨o, _, _, ho, hc, hd, by decide +kernel⟩

def protN (w : World) (b₀ : Heap) (m : Nat) : Prot w b₀ where
  items := (List.range m).map fun i : Nat => AVal.int (i : Int)
  St k _ h it := k ≤ m ∧ IsRangeIter h it (k : Int) ((m : Int) - (k : Int)) 1
  B _ := True
  next := by
    intro k A E s ρ H it Q hR hS hi hB hSt h1 h2
    obtain ⟨hkm, hit⟩ := hSt
    rcases Nat.lt_or_ge k m with hlt | hge
    · refine wpAny_pyNext_range_item hit (by omega) fun h' hit' hs => h1 (.int k) (by simp [hlt]) _ h' _ ⟨_, rfl⟩ hs ⟨hlt, ?_⟩
      have e1 : (k : Int) + 1 = ((k + 1 : Nat) : Int) := by omega
      have e2 : (m : Int) - (k : Int) - 1 = (m : Int) - ((k + 1 : Nat) : Int) := by omega
      rw [e2, e1] at hit'; exact hit'
    · exact with_size (wpAny_pyNext_range_end hR.handled hit (by omega) fun h' hs hz => h2 (by simp [hge]) h' hs hz)
  keep := by
    rintro k ρ l h h' it ⟨hkm, hit⟩ hk
    exact ⟨hkm, hk _ hit⟩
  obj := by
    rintro k ρ h it ⟨hkm, hit⟩
    exact ⟨_, _, _, hit, rfl, rfl, by decide +kernel⟩

theorem owns_lt {env : Env} {ρ : List Addr} {s : Shared} (hB : Bel w b₀ env st ρ s) : s.heap.objs.size ∉ owns env := fun h => Nat.lt_irrefl _ (hB.loc.there _ h)
theorem rho_lt {env : Env} {ρ : List Addr} {s : Shared} (hB : Bel w b₀ env st ρ s) : s.heap.objs.size ∉ ρ := fun h => Nat.lt_irrefl _ (hB.sim.lt h)
theorem base_none {env : Env} {ρ : List Addr} {s : Shared} (hB : Bel w b₀ env st ρ s) : b₀.get? s.heap.objs.size = none := Heap.get?_none_of_le hB.sim.base
theorem push_junk {env : Env} {ρ : List Addr} {s : Shared} (hB : Bel w b₀ env st ρ s) (o : Obj) (t : Nat) : Stp [] ρ ρ s { s with heap := s.heap.push o, toks := t } ∧ Bel w b₀ env st ρ { s with heap := s.heap.push o, toks := t } := by
  obtain ⟨z1, z2⟩ := junk_step hB.sim (h' := s.heap.push o) (fun b ob e => Heap.get?_push_of_some o e) (by rw [Heap.size_push]; exact Nat.le_succ _) t
  exact ⟨z1, hB.step z1 z2⟩

theorem Src.list {iter : Expr} {i : Nat} {vs : List AVal} (h : Ev w b₀ n cx iter st (.ref i) st1) (hl : st1.H[i]? = some (.list vs)) : Src w b₀ n cx iter st (protL w b₀ i vs) st1 := by
  intro A env E s ρ Q hR hE hB k
  refine h A env E s ρ _ hR hE hB fun s1 ρ1 u1 y1 hB1 hv1 => ?_
  obtain ⟨a, us, m, rfl, ha, hl1, hvs⟩ := hB1.sim.list hv1 hl
  refine wpAny_pyIter_list hl1.isList ?_
  obtain ⟨z1, z2⟩ := push_junk hB1 { cls := .type "list_iterator", data := .fields #[.ref a, .int 0 0] } s1.toks
  exact k _ _ _ (y1.trans z1.nil) z2 ⟨a, ha, _, Heap.get?_push_size _ rfl, rfl, rfl⟩ (rho_lt hB1) y1.size (owns_lt hB1) (base_none hB1) (Heap.lt_size (Heap.get?_push_size _ rfl))

theorem call_raw {func : Expr} {args : List Expr} {fv : Value} {vs : List AVal} {A : Around} {env : Env} {E : Value → Shared → Prop} {s : Shared} {ρ : List Addr} {Q : Value → Shared → Prop}
    (hf : Ev w b₀ n cx func st (.val fv) st1) (hk : CallForm fv b₀ w) (ha : EvL w b₀ n cx args st1 vs st2) (hp : argsPlain args) (hR : Room n A) (hE : EnvOK cx env) (hB : Bel w b₀ env st ρ s)
    (he : eval (.Call func args [] pos) env = (do callWith pos (← eval func env) [] (backTo pos (starEach args env)) (backToKw pos (keywordEach [] env))))
    (hc : ∀ s2 ρ2 us, Stp (owns env) ρ ρ2 s s2 → Bel w b₀ env st2 ρ2 s2 → VRs ρ2 vs us → wpAny (MO w) A (call fv us) Q E s2) :
    wpAny (MO w) A (eval (.Call func args [] pos) env) Q E s := by
  refine Call_ (hf A env E s ρ _ hR hE hB fun s1 ρ1 u1 y1 hB1 hv1 => ?_) he
  cases (hv1 : u1 = fv)
  refine callWith_of (P := fun h => ∀ b o, b₀.get? b = some o → h.get? b = some o) (by rw [hp]; rfl) hk (evalArgs_any (hp env pos) (ha A env E s1 ρ1 pos _ hR hE hB1 fun s2 ρ2 us y2 hB2 hvs => ⟨hB2.sim.stat, ?_⟩))
  exact hc s2 ρ2 us (y1.trans y2) hB2 hvs

theorem Src.rev {func arg : Expr} {i : Nat} {vs : List AVal} (hf : Ev w b₀ n cx func st (.val (.type "reversed")) st1) (ha : Ev w b₀ n cx arg st1 (.ref i) st2) (hl : st2.H[i]? = some (.list vs))
    (hs : ∀ env, starEach [arg] env = [(false, eval arg env)] := by intro _; rfl)
    (he : ∀ env, eval (.Call func [arg] [] pos) env = (do callWith pos (← eval func env) [] (backTo pos (starEach [arg] env)) (backToKw pos (keywordEach [] env))) := by intro _; rfl) :
    Src w b₀ n cx (.Call func [arg] [] pos) st (protR w b₀ i vs) st2 := by
  intro A env E s ρ Q hR hE hB k
  refine call_raw hf callForm_T (EvL.cons ha EvL.nil (fun env => (hs env).trans rfl)) (fun env p => by rw [hs env]; rfl) hR hE hB (he env) fun s2 ρ2 us y2 hB2 hvs => ?_
  obtain ⟨u, us', rfl, h1, h2⟩ := hvs.inv_cons
  cases h2.inv_nil
  obtain ⟨a, us, m, rfl, ha, hl1, hvs⟩ := hB2.sim.list h1 hl
  refine call_reversed_list hl1.isList ?_
  obtain ⟨z1, z2⟩ := push_junk hB2 (revObj a (((List.toArray us).size : Int) - 1)) s2.toks
  have hit : (s2.heap.push (revObj a (((List.toArray us).size : Int) - 1))).IsRevIter s2.heap.objs.size a (((List.toArray us).size : Int) - 1) := ⟨_, Heap.get?_push_size _ rfl, rfl, rfl⟩
  refine wpAny_pyIter_revIter hit ?_
  refine k _ _ _ (y2.trans z1.nil) z2 ⟨a, ha, Nat.zero_le _, ?_⟩ (rho_lt hB2) y2.size (owns_lt hB2) (base_none hB2) (Heap.lt_size (Heap.get?_push_size _ rfl))
  have e : ((List.toArray us).size : Int) - 1 = (vs.length : Int) - 1 - ((0 : Nat) : Int) := by rw [List.size_toArray, hvs.length]; omega
  rw [← e]; exact hit

theorem Src.range {func arg : Expr} {z : Int} (hz : z < 100000) (hz' : -100000 < z) (hf : Ev w b₀ n cx func st (.val (.type "range")) st1) (ha : Ev w b₀ n cx arg st1 (.int z) st2)
    (hs : ∀ env, starEach [arg] env = [(false, eval arg env)] := by intro _; rfl)
    (he : ∀ env, eval (.Call func [arg] [] pos) env = (do callWith pos (← eval func env) [] (backTo pos (starEach [arg] env)) (backToKw pos (keywordEach [] env))) := by intro _; rfl) :
    Src w b₀ n cx (.Call func [arg] [] pos) st (protN w b₀ z.toNat) st2 := by
  intro A env E s ρ Q hR hE hB k
  refine call_raw hf callForm_T (EvL.cons ha EvL.nil (fun env => (hs env).trans rfl)) (fun env p => by rw [hs env]; rfl) hR hE hB (he env) fun s2 ρ2 us y2 hB2 hvs => ?_
  obtain ⟨u, us', rfl, ⟨t, rfl⟩, h2⟩ := hvs.inv_cons
  cases h2.inv_nil
  refine call_range_1 ?_
  obtain ⟨z1, hB3⟩ := push_junk hB2 { cls := .type "range", data := .fields #[.int 0 s2.toks, .int z t, .int 1 (s2.toks + 1)] } (s2.toks + 1 + 1)
  refine wpAny_pyIter_range (IsRange.new ..) (small_one (by decide) (by decide) (by omega) (by omega)) ?_
  obtain ⟨z3, hB4⟩ := push_junk hB3 { cls := .type "range_iterator", data := .fields #[rawInt 0, rawInt (Builtin.Range.rangeSize 0 z 1), rawInt 1] } (s2.toks + 1 + 1)
  refine k _ _ _ ((y2.trans z1.nil).trans z3.nil) hB4 ⟨Nat.zero_le _, ?_⟩ (rho_lt hB3) (Nat.le_trans y2.size z1.size) (owns_lt hB3) (base_none hB3) (Heap.lt_size (Heap.get?_push_size _ rfl))
  have e : Builtin.Range.rangeSize 0 z 1 = (z.toNat : Int) - ((0 : Nat) : Int) := by
    rw [rangeSize_one]; split <;> omega
  rw [← e]
  exact Heap.get?_push_size _ rfl

/-- a while's run -/
inductive WLoop (w : World) (b₀ : Heap) (n : Nat) (cx : Cx) (test : Expr) (body : List Stmt) : ASt → AFlow → ASt → Prop
  | stop {st st1 : ASt} : Tr w b₀ n cx test st false st1 → WLoop w b₀ n cx test body st .next st1
  | go {st st1 st2 st3 : ASt} {f : AFlow} : Tr w b₀ n cx test st true st1 → Exs w b₀ n cx body st1 .next st2 → WLoop w b₀ n cx test body st2 f st3 → WLoop w b₀ n cx test body st f st3
  | ret {st st1 st2 : ASt} {r : AVal} : Tr w b₀ n cx test st true st1 → Exs w b₀ n cx body st1 (.ret r) st2 → WLoop w b₀ n cx test body st (.ret r) st2

theorem while_step {A : Around} {env : Env} {R : Result → Shared → Prop} {s : Shared} {test : Expr} {body : List Stmt}
    (h : wpAny (MO w) A (PySem.isTrue test env (eval test env)) (fun c s₁ => if c then wpAny (MO w) A (execs body env) (fun f s₃ => match f with
          | .next | .cont => codeAny (MO w) A (.whileLoop test body [] env) R s₃
          | .brk => R (.ok .next) s₃
          | .ret v => R (.ok (.ret v)) s₃) (notedBy (MO w) A env fun e s' => R (.error e) s') s₁ else R (.ok .next) s₁) (notedBy (MO w) A env fun e s' => R (.error e) s') s) : codeAny (MO w) A (.whileLoop test body [] env) R s := by
  refine codeAny_of_tree ?_
  show wpAny _ A ((whileTurn test body [] env).onRaise (fun x => do noteFrame x env; theTreesLotGoes x)) _ _ s
  refine wpAny_noted ?_
  simp only [whileTurn]
  refine wpAny_bind (wpAny_mono h (fun c s₁ h₁ => ?_) fun _ _ h' => h')
  cases c with
  | false =>
    simp only [Bool.false_eq_true, if_false] at h₁ ⊢
    exact wpAny_bind (wpAny_execs_nil (wpAny_pure h₁))
  | true =>
    simp only [if_true] at h₁ ⊢
    refine wpAny_bind (wpAny_mono h₁ (fun f s₃ h₃ => ?_) fun _ _ h' => h')
    cases f with
    | next => exact wpAny_pure ⟨rfl, h₃⟩
    | cont => exact wpAny_pure ⟨rfl, h₃⟩
    | brk => exact wpAny_pure h₃
    | ret v => exact wpAny_pure h₃

theorem Ex.while_ {test : Expr} {body : List Stmt} (D : WLoop w b₀ n cx test body st f st1) : Ex w b₀ n cx (.While test body [] pos) st f st1 := by
  intro A env E s ρ Q hR hE hB k
  refine wpAny_While ?_
  suffices H : ∀ (s : Shared) (ρ : List Addr) (R : Result → Shared → Prop), Bel w b₀ env st ρ s → (∀ s' ρ' fl, Stp (owns env) ρ ρ' s s' → Bel w b₀ env st1 ρ' s' → FR ρ' f fl → R (.ok fl) s') → codeAny (MO w) A (.whileLoop test body [] env) R s from
    H s ρ _ hB fun s' ρ' fl y hB' hfl => k _ _ _ y hB' hfl
  clear k hB
  induction D with
  | stop ht =>
    intro s ρ R hB k
    refine while_step (ht A env _ s ρ _ hR hE hB fun s1 ρ1 c y1 hB1 hc => ?_)
    cases (hc : c = false)
    exact k _ _ _ y1 hB1 rfl
  | go ht hb _ ih =>
    intro s ρ R hB k
    refine while_step (ht A env _ s ρ _ hR hE hB fun s1 ρ1 c y1 hB1 hc => ?_)
    cases (hc : c = true)
    refine hb A env _ s1 ρ1 _ hR hE hB1 fun s2 ρ2 fl y2 hB2 hfl => ?_
    cases (hfl : fl = .next)
    exact ih s2 ρ2 R hB2 fun s' ρ' fl y hB' hfl => k _ _ _ ((y1.trans y2).trans y) hB' hfl
  | ret ht hb =>
    intro s ρ R hB k
    refine while_step (ht A env _ s ρ _ hR hE hB fun s1 ρ1 c y1 hB1 hc => ?_)
    cases (hc : c = true)
    refine hb A env _ s1 ρ1 _ hR hE hB1 fun s2 ρ2 fl y2 hB2 hfl => ?_
    obtain ⟨u, rfl, hu⟩ := hfl
    exact k _ _ _ (y1.trans y2) hB2 ⟨u, rfl, hu⟩
end

theorem ar1 {P : List Value → Prop} (h : ∀ a, P [a]) : ∀ us : List Value, us.length = 1 → P us
  | [a], _ => h a
  | [], e => by cases e
  | _ :: _ :: _, e => by simp at e
theorem ar0 {P : List Value → Prop} (h : P []) : ∀ us : List Value, us.length = 0 → P us
  | [], _ => h
  | _ :: _, e => by simp at e
theorem arS {P : List Value → Prop} {n : Nat} (h : ∀ a, ∀ us : List Value, us.length = n → P (a :: us)) : ∀ us : List Value, us.length = n + 1 → P us
  | a :: us, e => h a us (by simpa using e)
  | [], e => by cases e
theorem ar2 {P : List Value → Prop} (h : ∀ a b, P [a, b]) : ∀ us : List Value, us.length = 2 → P us := arS fun a => ar1 fun b => h a b
theorem ar3 {P : List Value → Prop} (h : ∀ a b c, P [a, b, c]) : ∀ us : List Value, us.length = 3 → P us := arS fun a => ar2 fun b c => h a b c
theorem ar4 {P : List Value → Prop} (h : ∀ a b c d, P [a, b, c, d]) : ∀ us : List Value, us.length = 4 → P us := arS fun a => ar3 fun b c d => h a b c d

theorem VRs.zip_lookup {ρ : List Addr} {x : Str} : ∀ {ps : List Str} {vs : List AVal} {us : List Value} {v : AVal}, VRs ρ vs us → (ps.zip vs).lookup x = some v → ∃ u, (ps.zip us).lookup x = some u ∧ VR ρ v u
  | [], _, _, _, _, h => by simp at h
  | _ :: _, [], _, _, _, h => by simp at h
  | p :: ps, v0 :: vs, [], _, hv, _ => hv.elim
  | p :: ps, v0 :: vs, u0 :: us, v, ⟨h1, h2⟩, h => by
    rw [List.zip_cons_cons, List.lookup_cons] at h ⊢
    cases hb : x == p with
    | true => rw [hb] at h; cases h; exact ⟨u0, rfl, h1⟩
    | false => rw [hb] at h; exact VRs.zip_lookup h2 h

section
variable {w : World} {b₀ : Heap} {n : Nat} {cx : Cx} {st st1 st2 st3 : ASt} {v v1 v2 v3 : AVal} {pos apos : Pos} {x : Str} {K : Frag} {H : List AObj} {f : AFlow}

def FV : AFlow → AVal → Prop
  | .ret r, v => r = v
  | .next, v => v = .none
  | _, _ => False

theorem FR.val {ρ : List Addr} : ∀ {f : AFlow} {v : AVal} {fl : Flow}, FR ρ f fl → FV f v → VR ρ v (match fl with | .ret u => u | _ => .none)
  | .next, v, fl, h, hv => by cases (h : fl = _); cases (hv : v = _); rfl
  | .brk, _, _, _, hv => hv.elim
  | .cont, _, _, _, hv => hv.elim
  | .ret r, v, fl, h, hv => by obtain ⟨u, rfl, hu⟩ := h; cases (hv : r = v); exact hu

/-- the same of the code of a call -/
def Cod (w : World) (b₀ : Heap) (n : Nat) (f : Value) (as : List AVal) (H : List AObj) (v : AVal) (H' : List AObj) : Prop :=
  ∀ (A : Around) (s : Shared) (ρ : List Addr) (us : List Value) (R : Result → Shared → Prop), Room n A → Sim w b₀ ρ H s.heap → VRs ρ as us →
    (∀ s' ρ' r, Stp [] ρ ρ' s s' → Sim w b₀ ρ' H' s'.heap → VR ρ' v r → R (.ok (.ret r)) s') → codeAny (MO w) A (.call f ⟨us, []⟩) R s
theorem Cod.cal {fv : Value} {as : List AVal} {H' : List AObj} (h : Cod w b₀ n fv as H v H') : Cal w b₀ n (.val fv) as H v H' := by
  intro A E s ρ fu us Q hR hS hf hus k
  cases (hf : fu = _)
  exact wpAny_call (h A s ρ us _ hR hS hus fun s' ρ' r y S hr => k s' ρ' r y S hr)

/-- a call of a def without cells -/
theorem Cod.def {ps : List Str} {as : List AVal} {name qual : Str} {params : Arguments} {body : List Stmt} {scope : Scope} {dV kV doc pm cdv ct oc : Value} {an od : Option Addr} {osl : Array (Option Value)} {fa : Addr} {H' : List AObj} (G : Glo K b₀)
    (ho : K.lookup fa = some ⟨oc, od, .func (fnOf name qual params body scope dV kV doc pm an cdv ct), osl⟩) (hcd : codeIn K cdv qual = true)
    (_hp : ps = params.args.map (·.arg)) (hl : as.length = ps.length)
    (hbind : ∀ us : List Value, us.length = ps.length → bindArgs (fnOf name qual params body scope dV kV doc pm an cdv ct) ⟨us, []⟩ = pure (ps.zip us))
    (hcell : ∀ x ∈ scope.names, x.2 ≠ .cell) (hloc : ∀ x ∈ ps, scope.names.lookup x = some .local) (hnd : ps.Nodup)
    (hx : ∃ l, Exs w b₀ n ⟨scope, []⟩ body ⟨H, fun x => (ps.zip as).lookup x⟩ f ⟨H', l⟩) (hv : FV f v)
    (hco : scope.isCoroutine = false := by rfl) (hgen : scope.isGenerator = false := by rfl) (hk : scope.kind = .function := by rfl) :
    Cod w b₀ (n + 1) (.ref fa) as H v H' := by
  intro A s ρ us R hR hS hus k
  have hlu : us.length = ps.length := hus.length.trans hl
  obtain ⟨lo, hx⟩ := hx
  have X : K.In s.heap := hS.inn G
  refine (codeAny_call_def (by have := hR.depth; omega) (X _ _ ho) rfl (G.nolimit.keeps hS.stat) (codeRec_of X hcd) rfl (.of_eq (hbind us hlu)) hcell (fun y hy => hloc _ (List.of_mem_zip hy).1) (fun h₀ hns hk₀ => ?_) hco hgen hk)
  have hsz : s.heap.objs.size < h₀.objs.size := by obtain ⟨o, _, _, ho', _⟩ := hns; exact Heap.lt_size ho'
  have S1 : Sim w b₀ ρ H h₀ := hS.junk hk₀ (Nat.le_of_lt hsz)
  let env := callEnv (fnOf name qual params body scope dV kV doc pm an cdv ct) s.heap.objs.size fa
  have hE : EnvOK ⟨scope, []⟩ env := ⟨rfl, hk, rfl, rfl, rfl, rfl⟩
  have hB : Bel w b₀ env ⟨H, fun x => (ps.zip as).lookup x⟩ ρ { s with heap := h₀, toks := s.toks + (ps.zip us).length } := by
    refine ⟨S1, ⟨⟨_, hns, fun y v' hy _ => ?_⟩, fun y c hc => ?_, fun a ha => ?_, ?_, fun a ha => ?_⟩⟩
    · obtain ⟨u, h1, h2⟩ := hus.zip_lookup hy
      refine ⟨u, ?_, h2⟩
      show (ps.zip us).reverse.lookup y = some u
      rw [← h1]
      exact lookup_reverse_of_nodup _ (by rw [List.map_fst_zip (by omega)]; exact hnd) y
    · cases hc
    · cases List.mem_singleton.mp ha
      exact ⟨fun h => Nat.lt_irrefl _ (hS.lt h), hS.base⟩
    · simp [owns, env, callEnv, newEnv]
    · cases List.mem_singleton.mp ha
      exact hsz
  refine hx (A.deeper env) env _ _ ρ _ hR.deeper hE hB fun s' ρ' fl y hB' hfl => ?_
  have y0 : Stp [] ρ ρ' s s' := by
    obtain ⟨l, rfl, hl'⟩ := y.ext
    refine ⟨⟨l, rfl, fun a ha => Nat.le_trans (Nat.le_of_lt hsz) (hl' a ha)⟩, Nat.le_trans (Nat.le_of_lt hsz) y.size, fun b o _ hb e => y.keep b o ?_ hb (hk₀ b o e), by rw [y.same]⟩
    intro hm
    cases List.mem_singleton.mp hm
    exact Nat.lt_irrefl _ (Heap.lt_size e)
  exact k _ _ _ y0 hB'.sim (hfl.val hv)

theorem Cal.def {ps : List Str} {as : List AVal} {name qual : Str} {params : Arguments} {body : List Stmt} {scope : Scope} {dV kV doc pm cdv ct oc : Value} {an od : Option Addr} {osl : Array (Option Value)} {fa : Addr} {H' : List AObj} (G : Glo K b₀)
    (ho : K.lookup fa = some ⟨oc, od, .func (fnOf name qual params body scope dV kV doc pm an cdv ct), osl⟩) (hcd : codeIn K cdv qual = true)
    (_hp : ps = params.args.map (·.arg)) (hl : as.length = ps.length)
    (hbind : ∀ us : List Value, us.length = ps.length → bindArgs (fnOf name qual params body scope dV kV doc pm an cdv ct) ⟨us, []⟩ = pure (ps.zip us))
    (hcell : ∀ x ∈ scope.names, x.2 ≠ .cell) (hloc : ∀ x ∈ ps, scope.names.lookup x = some .local) (hnd : ps.Nodup)
    (hx : ∃ l, Exs w b₀ n ⟨scope, []⟩ body ⟨H, fun x => (ps.zip as).lookup x⟩ f ⟨H', l⟩) (hv : FV f v)
    (hco : scope.isCoroutine = false := by rfl) (hgen : scope.isGenerator = false := by rfl) (hk : scope.kind = .function := by rfl) :
    Cal w b₀ (n + 1) (.val (.ref fa)) as H v H' :=
  (Cod.def G ho hcd _hp hl hbind hcell hloc hnd hx hv hco hgen hk).cal

theorem bindL_some {k : Str → Option NameKind} {x : Str} (hk : k x = some .local) : ∀ {binds : List (Str × Value)} {m : Str → Option Value}, (binds.map (·.1)).Nodup → bindL k binds m x = match binds.lookup x with | some u => some u | none => m x
  | [], m, _ => rfl
  | (y, u) :: r, m, hnd => by
    rw [List.map_cons, List.nodup_cons] at hnd
    rw [bindL, bindL_some hk hnd.2, List.lookup_cons]
    cases hb : x == y with
    | true =>
      cases (beq_iff_eq.mp hb : x = y)
      have : r.lookup x = none := by
        rw [List.lookup_eq_none_iff]
        intro p hp
        by_cases e : x = p.1
        · exact absurd (List.mem_map.mpr ⟨p, hp, e.symm⟩) hnd.1
        · simpa using e
      rw [this]
      simp [hk]
    | false =>
      have hne : x ≠ y := by simpa using hb
      cases r.lookup x with
      | some u => rfl
      | none => by_cases h : k y = some .local <;> simp [h, hne]
theorem bindC_some {k : Str → Option NameKind} {x : Str} (hk : k x ≠ some .local) : ∀ {binds : List (Str × Value)} {m : Str → Option Value}, (binds.map (·.1)).Nodup → bindC k binds m x = match binds.lookup x with | some u => some u | none => m x
  | [], m, _ => rfl
  | (y, u) :: r, m, hnd => by
    rw [List.map_cons, List.nodup_cons] at hnd
    rw [bindC, bindC_some hk hnd.2, List.lookup_cons]
    cases hb : x == y with
    | true =>
      cases (beq_iff_eq.mp hb : x = y)
      have : r.lookup x = none := by
        rw [List.lookup_eq_none_iff]
        intro p hp
        by_cases e : x = p.1
        · exact absurd (List.mem_map.mpr ⟨p, hp, e.symm⟩) hnd.1
        · simpa using e
      rw [this]
      simp [hk]
    | false =>
      have hne : x ≠ y := by simpa using hb
      cases r.lookup x with
      | some u => rfl
      | none => by_cases h : k y = some .local <;> simp [h, hne]

def cellNames (sc : Scope) : List Str := (cellsFrom 0 sc.names []).map (·.1)

/-- a call of a def with cells -/
theorem Cal.defC {ps : List Str} {as : List AVal} {name qual : Str} {params : Arguments} {body : List Stmt} {scope : Scope} {dV kV doc pm cdv ct oc : Value} {an od : Option Addr} {osl : Array (Option Value)} {fa : Addr} {H' : List AObj} (G : Glo K b₀)
    (ho : K.lookup fa = some ⟨oc, od, .func (fnOf name qual params body scope dV kV doc pm an cdv ct), osl⟩) (hcd : codeIn K cdv qual = true)
    (_hp : ps = params.args.map (·.arg)) (hl : as.length = ps.length)
    (hbind : ∀ us : List Value, us.length = ps.length → bindArgs (fnOf name qual params body scope dV kV doc pm an cdv ct) ⟨us, []⟩ = pure (ps.zip us))
    (hloc : ∀ x ∈ ps, scope.names.lookup x = some .local ∨ scope.names.lookup x = some .cell) (hnd : ps.Nodup) (hcl : ∀ x ∈ cellNames scope, scope.names.lookup x = some .cell) (hcnd : (cellNames scope).Nodup)
    (hx : ∃ l, Exs w b₀ n ⟨scope, cellNames scope⟩ body ⟨H, fun x => (ps.zip as).lookup x⟩ f ⟨H', l⟩) (hv : FV f v)
    (hco : scope.isCoroutine = false := by rfl) (hgen : scope.isGenerator = false := by rfl) (hk : scope.kind = .function := by rfl) :
    Cal w b₀ (n + 1) (.val (.ref fa)) as H v H' := by
  intro A E s ρ fu us Q hR hS hf hus k
  cases (hf : fu = _)
  have hlu : us.length = ps.length := hus.length.trans hl
  obtain ⟨lo, hx⟩ := hx
  have X : K.In s.heap := hS.inn G
  have hzn : ((ps.zip us).map (·.1)).Nodup := by rw [List.map_fst_zip (by omega)]; exact hnd
  refine wpAny_call (codeAny_call_cells (by have := hR.depth; omega) (X _ _ ho) rfl (G.nolimit.keeps hS.stat) (codeRec_of X hcd) rfl (hbind us hlu) rfl (fun y hy => (hloc _ (List.of_mem_zip hy).1).imp id fun h => ⟨h, cellsFrom_some _ _ _ (.inl h)⟩) (fun s₁ hC => ?_) hco hgen hk)
  obtain ⟨h₁, tk, rfl, hk₁⟩ := hC.done
  have hns := hC.toInCall.ns
  have hsz : s.heap.objs.size < h₁.objs.size := by obtain ⟨o, _, _, ho', _⟩ := hns; exact Heap.lt_size ho'
  have S1 : Sim w b₀ ρ H h₁ := hS.junk hk₁ (Nat.le_of_lt hsz)
  let env := callEnvC (fnOf name qual params body scope dV kV doc pm an cdv ct) s.heap.objs.size fa
  have hcn : env.cells.map (·.1) = cellNames scope := cellsFrom_names _ _ _ _ _ rfl
  have hE : EnvOK ⟨scope, cellNames scope⟩ env := ⟨rfl, hk, rfl, rfl, hcn, rfl⟩
  have hge : ∀ a ∈ owns env, s.heap.objs.size ≤ a := fun a ha => by
    rcases List.mem_cons.mp ha with rfl | h
    · exact Nat.le_refl _
    · obtain ⟨p, hp1, rfl⟩ := List.mem_map.mp h
      exact Nat.le_of_lt (hC.above p.1 p.2 hp1)
  have hcell : ∀ y c, (y, c) ∈ env.cells → ∃ ov, h₁.IsCell c ov := fun y c hm => by
    exact ⟨_, hC.cell y c (lookup_of_mem_nodup (by rw [hcn]; exact hcnd) hm)⟩
  have hB : Bel w b₀ env ⟨H, fun x => (ps.zip as).lookup x⟩ ρ { s with heap := h₁, toks := tk } := by
    refine ⟨S1, ⟨⟨_, hns, fun y v' hy hyk => ?_⟩, fun y c hc => ⟨_, hC.cell y c hc, fun v' hv' => ?_⟩, fun a ha => ⟨fun h => Nat.lt_irrefl _ (Nat.lt_of_lt_of_le (hS.lt h) (hge a ha)), Nat.le_trans hS.base (hge a ha)⟩, ?_, fun a ha => ?_⟩⟩
    · obtain ⟨u, h1, h2⟩ := hus.zip_lookup hy
      refine ⟨u, ?_, h2⟩
      rw [bindL_some hyk hzn, h1]
    · obtain ⟨u, h1, h2⟩ := hus.zip_lookup hv'
      refine ⟨u, ?_, h2⟩
      have hyc : y ∈ cellNames scope := hcn ▸ List.mem_map.mpr ⟨_, mem_of_lookup hc, rfl⟩
      rw [bindC_some (by show scope.names.lookup y ≠ _; rw [hcl y hyc]; decide) hzn, h1]
    · unfold owns
      rw [List.nodup_cons]
      refine ⟨fun h => ?_, ?_⟩
      · obtain ⟨p, hp1, hp2⟩ := List.mem_map.mp h
        have := hC.above p.1 p.2 hp1
        rw [hp2] at this
        exact Nat.lt_irrefl _ this
      · unfold List.Nodup
        rw [List.pairwise_map]
        exact hC.apart
    · rcases List.mem_cons.mp ha with rfl | h
      · exact hsz
      · obtain ⟨p, hp1, rfl⟩ := List.mem_map.mp h
        obtain ⟨ov, o, ho', _⟩ := hcell p.1 p.2 hp1
        exact Heap.lt_size ho'
  refine hx (A.deeper env) env _ _ ρ _ hR.deeper hE hB fun s' ρ' fl y hB' hfl => ?_
  have y0 : Stp [] ρ ρ' s s' := by
    obtain ⟨l, rfl, hl'⟩ := y.ext
    refine ⟨⟨l, rfl, fun a ha => Nat.le_trans (Nat.le_of_lt hsz) (hl' a ha)⟩, Nat.le_trans (Nat.le_of_lt hsz) y.size, fun b o _ hb e => y.keep b o ?_ hb (hk₁ b o e), by rw [y.same]⟩
    intro hm
    exact Nat.lt_irrefl _ (Nat.lt_of_lt_of_le (Heap.lt_size e) (hge _ hm))
  exact k _ _ _ y0 hB'.sim (hfl.val hv)
end

def relS (scope sc : Scope) : Scope :=
  { scope with names := scope.names.map fun (n, k) => if (k == .free && sc.kind == .function && sc.names.lookup n == some .cell) then (n, .cell) else (n, k) }
theorem relabel_eq {cx : Cx} {env : Env} (hE : EnvOK cx env) (scope : Scope) : relabel scope env = relS scope cx.sc := by
  unfold relabel relS Env.kindOf; rw [hE.scope]

def freeNames (sc : Scope) : List Str := ((sc.names.filter fun x => x.2 == .free).map (·.1)).reverse

theorem closureFor_loop {env : Env} (f : Str × NameKind → List (Str × Addr) → Sem (ForInStep (List (Str × Addr))))
    (hf : ∀ name kind cs, f (name, kind) cs = if kind == .free then (do let c ← cellOf env name; pure (.yield ((name, c) :: cs))) else pure (.yield cs)) :
    ∀ (names : List (Str × NameKind)) (acc : List (Str × Addr)), (∀ x ∈ names, x.2 = .free → x.1 ∈ env.cells.map (·.1)) →
      ∃ cl, forIn names acc f = (pure cl : Sem _) ∧ cl.map (·.1) = ((names.filter fun x => x.2 == .free).map (·.1)).reverse ++ acc.map (·.1) ∧ ∀ p ∈ cl, p ∈ acc ∨ env.cells.lookup p.1 = some p.2
  | [], acc, _ => ⟨acc, by rw [List.forIn_nil], by simp, fun p hp => .inl hp⟩
  | (name, kind) :: r, acc, h => by
    rw [List.forIn_cons, hf]
    by_cases hk : kind = .free
    · subst hk
      obtain ⟨c, hc⟩ := lookup_of_cn (h (name, .free) List.mem_cons_self rfl)
      obtain ⟨cl, h1, h2, h3⟩ := closureFor_loop f hf r ((name, c) :: acc) fun x hx => h x (List.mem_cons_of_mem _ hx)
      refine ⟨cl, ?_, ?_, fun p hp => ?_⟩
      · have : cellOf env name = pure c := by unfold cellOf; rw [hc]
        rw [this]
        simp only [beq_self_eq_true, if_true]
        exact h1
      · rw [h2]
        show _ = ((List.filter _ ((name, NameKind.free) :: r)).map _).reverse ++ _
        rw [List.filter_cons_of_pos (by rfl)]
        simp
      · rcases h3 p hp with h4 | h4
        · rcases List.mem_cons.mp h4 with rfl | h4
          · exact .inr hc
          · exact .inl h4
        · exact .inr h4
    · have hk' : (kind == NameKind.free) = false := by simpa using hk
      obtain ⟨cl, h1, h2, h3⟩ := closureFor_loop f hf r acc fun x hx => h x (List.mem_cons_of_mem _ hx)
      refine ⟨cl, ?_, ?_, h3⟩
      · rw [hk']; exact h1
      · rw [h2, List.filter_cons_of_neg (by simp [hk'])]

theorem closureFor_ok {env : Env} {scope : Scope} (h : ∀ x ∈ scope.names, x.2 = .free → x.1 ∈ env.cells.map (·.1)) :
    ∃ cl, closureFor scope env = pure cl ∧ cl.map (·.1) = freeNames scope ∧ ∀ p ∈ cl, env.cells.lookup p.1 = some p.2 := by
  obtain ⟨cl, h1, h2, h3⟩ := closureFor_loop (env := env) (fun x (cs : List (Str × Addr)) => if x.2 == .free then (do let c ← cellOf env x.1; pure (.yield ((x.1, c) :: cs))) else pure (.yield cs)) (fun _ _ _ => rfl) scope.names [] h
  refine ⟨cl, ?_, by rw [h2]; simp [freeNames], fun p hp => (h3 p hp).resolve_left (by simp)⟩
  rw [← h1]
  exact LawfulMonad.bind_pure_comp id _ |>.trans (id_map _)

section
variable {w : World} {b₀ : Heap} {n : Nat} {cx cx' : Cx} {st st1 st2 st3 : ASt} {v v1 v2 v3 : AVal} {pos apos : Pos} {x : Str} {K : Frag} {H : List AObj} {f : AFlow}

def Tst (w : World) (b₀ : Heap) (n : Nat) (cx : Cx) (ifs : List Expr) (st : ASt) (b : Bool) (st' : ASt) : Prop :=
  Act w b₀ n cx (fun env => forIn ifs true fun c r => if r = true then do let ok ← PySem.isTrue c env (eval c env); pure (ForInStep.yield ok) else pure (ForInStep.yield r)) (fun _ b a => a = b) st b st'
theorem Tst.nil : Tst w b₀ n cx [] st true st := by
  intro A env E s ρ Q hR hE hB k
  exact wpAny_tests_nil (k _ _ _ Stp.refl hB rfl)
theorem Tst.one {c : Expr} {b : Bool} (h : Tr w b₀ n cx c st b st1) : Tst w b₀ n cx [c] st b st1 := by
  intro A env E s ρ Q hR hE hB k
  exact wpAny_tests_one (h A env E s ρ _ hR hE hB k)

/-- a comprehension's run over the items left; base is the frame around -/
inductive CRun (w : World) (b₀ : Heap) (n : Nat) (cx : Cx) (B : List AObj → Prop) (base : Str → Option AVal) (tgt : Str) (elt : Expr) (ifs : List Expr) (D : Nat) : List AVal → List AObj → List AVal → List AObj → List AVal → Prop
  | nil {H : List AObj} {acc : List AVal} : B H → CRun w b₀ n cx B base tgt elt ifs D [] H acc H acc
  | take {v r : AVal} {vs acc acc' : List AVal} {H H1 H2 H' : List AObj} : B H → Tst w b₀ n cx ifs ⟨H, upd base tgt v⟩ true ⟨H1, upd base tgt v⟩ → Ev w b₀ n cx elt ⟨H1, upd base tgt v⟩ r ⟨H2, upd base tgt v⟩ →
      H2[D]? = some (.list acc) → CRun w b₀ n cx B base tgt elt ifs D vs (H2.set D (.list (acc ++ [r]))) (acc ++ [r]) H' acc' → CRun w b₀ n cx B base tgt elt ifs D (v :: vs) H acc H' acc'
  | skip {v : AVal} {vs acc acc' : List AVal} {H H1 H' : List AObj} : B H → Tst w b₀ n cx ifs ⟨H, upd base tgt v⟩ false ⟨H1, upd base tgt v⟩ → H1[D]? = some (.list acc) →
      CRun w b₀ n cx B base tgt elt ifs D vs H1 acc H' acc' → CRun w b₀ n cx B base tgt elt ifs D (v :: vs) H acc H' acc'

theorem comp_step {A : Around} {env : Env} {R : Result → Shared → Prop} {s : Shared} {target elt iter : Expr} {ifs : List Expr} {scope : Scope} {it acc : Value}
    (h : wpAny (MO w) A (pyNext it) (fun r s₁ => match r with
      | none => R (.ok .next) s₁
      | some v => wpAny (MO w) A (letOwnedTupleGo target it v) (fun _ s₁' => wpAny (MO w) A (PySem.assign target env v) (fun _ s₂ =>
          wpAny (MO w) A (forIn ifs true fun c r => if r = true then do let ok ← PySem.isTrue c env (eval c env); pure (ForInStep.yield ok) else pure (ForInStep.yield r)) (fun ok s₃ =>
            if ok = true then wpAny (MO w) A (eval elt env) (fun x s₄ =>
              wpAny (MO w) A (call (.builtin "list.append") [acc, x]) (fun _ s₅ => codeAny (MO w) A (.compLoop (.ListComp elt [⟨target, iter, ifs, 0⟩] scope pos) 0 it acc env) R s₅)
                (notedBy (MO w) A env fun e s' => R (.error e) s') s₄) (notedBy (MO w) A env fun e s' => R (.error e) s') s₃
            else codeAny (MO w) A (.compLoop (.ListComp elt [⟨target, iter, ifs, 0⟩] scope pos) 0 it acc env) R s₃)
            (notedBy (MO w) A env fun e s' => R (.error e) s') s₂) (notedBy (MO w) A env fun e s' => R (.error e) s') s₁') (notedBy (MO w) A env fun e s' => R (.error e) s') s₁)
      (notedBy (MO w) A env fun e s' => R (.error e) s') s) :
    codeAny (MO w) A (.compLoop (.ListComp elt [⟨target, iter, ifs, 0⟩] scope pos) 0 it acc env) R s := by
  refine codeAny_of_tree ?_
  show wpAny _ A ((compTurn (.ListComp elt [⟨target, iter, ifs, 0⟩] scope pos) 0 it acc env).onRaise (fun x => do noteFrame x env; theTreesLotGoes x)) _ _ s
  refine wpAny_noted ?_
  rw [compTurn_list]
  refine wpAny_bind (wpAny_standAt (wpAny_bind (wpAny_mono h (fun r s₁ h₁ => ?_) fun _ _ h' => h')))
  cases r with
  | none => exact wpAny_pure h₁
  | some v =>
    refine wpAny_bind (wpAny_mono h₁ (fun _ s₁' h₁' => wpAny_bind (wpAny_mono h₁' (fun _ s₂ h₂ => wpAny_bind (wpAny_mono h₂ (fun ok s₃ h₃ => ?_) fun _ _ h' => h')) fun _ _ h' => h')) fun _ _ h' => h')
    cases ok with
    | false => exact wpAny_pure ⟨rfl, h₃⟩
    | true =>
      exact wpAny_bind (wpAny_bind (wpAny_mono h₃ (fun x s₄ h₄ => wpAny_bind (wpAny_mono h₄ (fun _ s₅ h₅ => wpAny_pure (wpAny_pure ⟨rfl, h₅⟩)) fun _ _ h' => h')) fun _ _ h' => h'))

theorem Stp.drop {own own' ρ ρ1 ρ' : List Addr} {s s1 s' : Shared} (h0 : Stp own ρ ρ1 s s1) (h1 : Stp own' ρ1 ρ' s1 s') (hin : ∀ a ∈ own', a ∈ own ∨ s.heap.objs.size ≤ a) : Stp own ρ ρ' s s' := by
  obtain ⟨l, rfl, hl⟩ := h0.ext
  obtain ⟨l', rfl, hl'⟩ := h1.ext
  refine ⟨⟨l ++ l', by simp, fun a ha => ?_⟩, Nat.le_trans h0.size h1.size, fun b o hb hr e => ?_, by rw [h1.same, h0.same]⟩
  · rcases List.mem_append.mp ha with q | q
    · exact hl a q
    · exact Nat.le_trans h0.size (hl' a q)
  · refine h1.keep b o (fun q => ?_) (fun q => ?_) (h0.keep b o hb hr e)
    · rcases hin b q with q | q
      · exact hb q
      · exact Nat.lt_irrefl _ (Nat.lt_of_lt_of_le (Heap.lt_size e) q)
    · rcases List.mem_append.mp q with q | q
      · exact hr q
      · exact Nat.lt_irrefl _ (Nat.lt_of_lt_of_le (Heap.lt_size e) (hl _ q))

theorem upd_upd {l : Str → Option AVal} {x : Str} {a b : AVal} : upd (upd l x a) x b = upd l x b := by
  funext y; unfold upd; split <;> rfl

theorem Stp.notIn {own ρ ρ' : List Addr} {s s' : Shared} (y : Stp own ρ ρ' s s') {a : Addr} (h : a ∉ ρ) (hl : a < s.heap.objs.size) : a ∉ ρ' := by
  obtain ⟨l, rfl, hl'⟩ := y.ext
  rw [List.mem_append]
  rintro (q | q)
  · exact h q
  · exact Nat.lt_irrefl _ (Nat.lt_of_lt_of_le hl (hl' _ q))
theorem Stp.at {own ρ ρ' : List Addr} {s s' : Shared} (y : Stp own ρ ρ' s s') {i : Nat} {a : Addr} (h : ρ[i]? = some a) : ρ'[i]? = some a := by
  obtain ⟨l, rfl, _⟩ := y.ext
  rw [List.getElem?_append_left (List.getElem?_eq_some_iff.mp h).1]; exact h

theorem CRun.run (P : Prot w b₀) {base : Str → Option AVal} {tgt : Str} {elt iter : Expr} {ifs : List Expr} {D : Nat} {vs acc acc' : List AVal} {H H' : List AObj} {scope : Scope} {p : Pos}
    (X : CRun w b₀ n cx P.B base tgt elt ifs D vs H acc H' acc') (hk : cx.sc.names.lookup tgt = some .local) (hc : tgt ∉ cx.cn) : ∀ (k : Nat), P.items.drop k = vs → ∀ (A : Around) (env : Env) (s : Shared) (ρ : List Addr) (it Da : Addr) (l : Str → Option AVal) (R : Result → Shared → Prop),
    Room n A → EnvOK cx env → Bel w b₀ env ⟨H, l⟩ ρ s → (∀ v, upd l tgt v = upd base tgt v) → acc.length + vs.length ≤ 1000 → ρ[D]? = some Da → P.St k ρ s.heap it → it ∉ ρ → it ∉ owns env → b₀.get? it = none → it < s.heap.objs.size →
    (∀ s' ρ' l', Stp (it :: owns env) ρ ρ' s s' → Bel w b₀ env ⟨H', l'⟩ ρ' s' → (∀ v, upd l' tgt v = upd base tgt v) → R (.ok .next) s') →
    codeAny (MO w) A (.compLoop (.ListComp elt [⟨.Name tgt p, iter, ifs, 0⟩] scope pos) 0 (.ref it) (.ref Da) env) R s := by
  have item : ∀ {k : Nat} {v : AVal} {vs : List AVal}, P.items.drop k = v :: vs → P.items[k]? = some v ∧ P.items.drop (k + 1) = vs := fun {k v vs} e => by
    have h1 := List.getElem?_drop (xs := P.items) (i := k) (j := 0)
    rw [e] at h1
    refine ⟨by simpa using h1.symm, ?_⟩
    have : P.items.drop (k + 1) = (P.items.drop k).drop 1 := by rw [List.drop_drop]
    rw [this, e]; rfl
  have sub : ∀ {env : Env} {it : Addr} (a : Addr), a ∈ owns env → a ∈ it :: owns env := fun a h => List.mem_cons_of_mem _ h
  have one : ∀ {env : Env} {it : Addr} (a : Addr), a ∈ [it] → a ∈ it :: owns env := fun a h => by rw [List.mem_singleton.mp h]; exact List.mem_cons_self
  have turn : ∀ {k : Nat} {v : AVal} {H H1 : List AObj} {b : Bool} {A : Around} {env : Env} {s : Shared} {ρ : List Addr} {it Da : Addr} {l : Str → Option AVal} {R : Result → Shared → Prop}, P.items[k]? = some v → P.B H →
      Tst w b₀ n cx ifs ⟨H, upd base tgt v⟩ b ⟨H1, upd base tgt v⟩ →
      Room n A → EnvOK cx env → Bel w b₀ env ⟨H, l⟩ ρ s → (∀ v, upd l tgt v = upd base tgt v) → P.St k ρ s.heap it → it ∉ ρ → it ∉ owns env → b₀.get? it = none → it < s.heap.objs.size →
      (∀ s' ρ', Stp (it :: owns env) ρ ρ' s s' → Bel w b₀ env ⟨H1, upd base tgt v⟩ ρ' s' → P.St (k + 1) ρ' s'.heap it → it ∉ ρ' → it < s'.heap.objs.size →
          if b = true then wpAny (MO w) A (eval elt env) (fun x s₄ =>
              wpAny (MO w) A (call (.builtin "list.append") [.ref Da, x]) (fun _ s₅ => codeAny (MO w) A (.compLoop (.ListComp elt [⟨.Name tgt p, iter, ifs, 0⟩] scope pos) 0 (.ref it) (.ref Da) env) R s₅)
                (notedBy (MO w) A env fun e s' => R (.error e) s') s₄) (notedBy (MO w) A env fun e s' => R (.error e) s') s'
            else codeAny (MO w) A (.compLoop (.ListComp elt [⟨.Name tgt p, iter, ifs, 0⟩] scope pos) 0 (.ref it) (.ref Da) env) R s') → codeAny (MO w) A (.compLoop (.ListComp elt [⟨.Name tgt p, iter, ifs, 0⟩] scope pos) 0 (.ref it) (.ref Da) env) R s := by
    intro k v H H1 b A env s ρ it Da l R hv hPB hT hR hE hB hl hSt hi1 hi2 hi3 hi4 kk
    refine comp_step (P.next k A _ s ρ H it _ (hR.mono (Nat.zero_le _)) hB.sim hi1 hPB hSt (fun v' hv' u h' t hvu hs hSt' => ?_) (fun hn => by rw [hv] at hn; cases hn))
    rw [hv] at hv'; cases hv'
    obtain ⟨o, cls, fs, g1, g2, g3, g4⟩ := P.obj _ _ _ _ hSt'
    obtain ⟨y1, hB1⟩ := iter_step hB hs hi1 hi2 hi3 t
    refine letgo_any (s := { s with heap := h', toks := t }) g1 g2 g3 g4 ?_
    refine As.name (p := p) hk hc A env _ _ ρ u _ hR hE hB1 (y1.vr hvu) fun s2 ρ2 y2 hB2 => ?_
    have hB2' : Bel w b₀ env ⟨H, upd base tgt v⟩ ρ2 s2 := by rw [← hl v]; exact hB2
    have hi1' : it ∉ ρ2 := y2.notIn hi1 (Heap.lt_size g1)
    have hlt2 : it < s2.heap.objs.size := Nat.lt_of_lt_of_le (Heap.lt_size g1) y2.size
    have hSt2 : P.St (k + 1) ρ2 s2.heap it := by
      obtain ⟨l, rfl, hl⟩ := y2.ext
      exact P.keep _ _ _ _ _ _ hSt' fun o e => y2.keep it o hi2 hi1 e
    refine hT A env _ s2 ρ2 _ hR hE hB2' fun s3 ρ3 ok y3 hB3 hok => ?_
    cases (hok : ok = b)
    have hSt3 : P.St (k + 1) ρ3 s3.heap it := by
      obtain ⟨l, rfl, hl⟩ := y3.ext
      exact P.keep _ _ _ _ _ _ hSt2 fun o e => y3.keep it o hi2 hi1' e
    exact kk _ _ (((y1.weaken one).trans (y2.weaken sub)).trans (y3.weaken sub)) hB3 hSt3 (y3.notIn hi1' hlt2) (Nat.lt_of_lt_of_le hlt2 y3.size)
  induction X with
  | nil hPB =>
    intro k hk' A env s ρ it Da l R hR hE hB hl hz hDa hSt hi1 hi2 hi3 hi4 kk
    have hnone : P.items[k]? = none := List.getElem?_eq_none (by have := congrArg List.length hk'; simp at this; omega)
    refine comp_step (P.next k A _ s ρ _ it _ (hR.mono (Nat.zero_le _)) hB.sim hi1 hPB hSt (fun v' hv' => by rw [hnone] at hv'; cases hv') fun _ h' hs hz => ?_)
    obtain ⟨y1, hB1⟩ := iter_end hB hs hz hi1 hi2 hi3 s.toks
    exact kk _ _ _ (y1.weaken one) hB1 hl
  | take hPB hT he hD _ ih =>
    intro k hk' A env s ρ it Da l R hR hE hB hl hz hDa hSt hi1 hi2 hi3 hi4 kk
    obtain ⟨hv, hd⟩ := item hk'
    refine turn hv hPB hT hR hE hB hl hSt hi1 hi2 hi3 hi4 fun s' ρ' y hB' hSt' hi1' hi4' => ?_
    rw [if_pos rfl]
    refine he A env _ s' ρ' _ hR hE hB' fun s2 ρ2 u y2 hB2 hu => ?_
    obtain ⟨a, us, m, ea, ha, hl2, hvs⟩ := hB2.sim.list (u := .ref Da) ⟨Da, (y.trans (y2.weaken sub)).at hDa, rfl⟩ hD
    cases ea
    simp only [List.length_cons] at hz
    refine wpAny_call_entry slot_list_append ⟨_, hl2, rfl⟩ entry_list_append ?_ (args_list_append _ _)
    show wpAny _ _ (updateSeq Da (·.push u) >>= fun _ => ret .none) _ _ s2
    refine wpAny_bind (wpAny_updateSeq hl2 rfl (wpAny_pure ⟨.none, rfl, ?_⟩) (by rw [List.size_toArray, hvs.length, sizeLine_eq]; exact om3 (by assumption) (by first | exact Nat.le_refl _ | decide)) (by rw [Array.size_push, List.size_toArray, hvs.length, sizeLine_eq]; omega))
    obtain ⟨z1, z2⟩ := list_upd hB2.sim ha hl2 (fun xs => xs.push u) (us' := us ++ [u]) (by simp) (hvs.append (VRs.one hu)) s2.toks
    have hSt2 : P.St (k + 1) ρ2 s2.heap it := by
      obtain ⟨l, rfl, hl⟩ := y2.ext
      exact P.keep _ _ _ _ _ _ hSt' fun o e => y2.keep it o hi2 hi1' e
    have hi1'' := y2.notIn hi1' hi4'
    have hlt2 : it < s2.heap.objs.size := Nat.lt_of_lt_of_le hi4' y2.size
    have hSt3 : P.St (k + 1) ρ2 (s2.heap.update Da (Obj.mapSeq fun x => x.push u)) it := by
      have := P.keep (k + 1) ρ2 [] s2.heap _ it hSt2 fun o e => z1.keep it o (by simp) hi1'' e
      simpa using this
    exact ih (k + 1) hd A env _ ρ2 it Da _ R hR hE (hB2.step z1 z2) (fun v => upd_upd) (by simp; exact om6 (by assumption) (by first | exact Nat.le_refl _ | decide)) ha hSt3 hi1'' hi2 hi3 (Nat.lt_of_lt_of_le hlt2 z1.size) fun s3 ρ3 l3 y3 hB3 hl3 => kk _ _ _ (((y.trans (y2.weaken sub)).trans z1.nil).trans y3) hB3 hl3
  | skip hPB hT hD _ ih =>
    intro k hk' A env s ρ it Da l R hR hE hB hl hz hDa hSt hi1 hi2 hi3 hi4 kk
    obtain ⟨hv, hd⟩ := item hk'
    simp only [List.length_cons] at hz
    refine turn hv hPB hT hR hE hB hl hSt hi1 hi2 hi3 hi4 fun s' ρ' y hB' hSt' hi1' hi4' => ?_
    rw [if_neg Bool.false_ne_true]
    exact ih (k + 1) hd A env s' ρ' it Da _ R hR hE hB' (fun v => upd_upd) (by exact Nat.le_of_lt (by assumption)) (y.at hDa) hSt' hi1' hi2 hi3 hi4' fun s3 ρ3 l3 y3 hB3 hl3 => kk _ _ _ (y.trans y3) hB3 hl3

def compBase (scope : Scope) (l : Str → Option AVal) : Str → Option AVal := fun y => if y ∈ freeNames scope then l y else none
def compCx (scope : Scope) (cx : Cx) : Cx := ⟨relS scope cx.sc, freeNames scope⟩

structure CompOK (scope : Scope) (cx : Cx) (tgt : Str) : Prop where
  free : ∀ y ∈ freeNames scope, y ∈ cx.cn
  nodup : (freeNames scope).Nodup
  nocell : ∀ y ∈ scope.names, y.2 ≠ .cell
  kind : scope.kind = .function
  names : ∀ y ∈ scope.names, y.2 = .local → scope.names.lookup y.1 = some .local
  tk : (relS scope cx.sc).names.lookup tgt = some .local
  tc : tgt ∉ freeNames scope
  cells : ∀ y ∈ freeNames scope, (relS scope cx.sc).names.lookup y = some .cell

theorem mem_freeNames {scope : Scope} {y : Str × NameKind} (h : y ∈ scope.names) (hf : y.2 = .free) : y.1 ∈ freeNames scope := by
  unfold freeNames
  rw [List.mem_reverse]
  exact List.mem_map.mpr ⟨y, List.mem_filter.mpr ⟨h, by rw [hf]; rfl⟩, rfl⟩

theorem comp_core {P : Prot w b₀} {tgt : Str} {elt iter : Expr} {ifs : List Expr} {acc' : List AVal} {H' : List AObj} {scope : Scope} {p pos' : Pos} {A : Around} {env : Env} {E : Value → Shared → Prop} {s : Shared} {ρ : List Addr} {Q : Value → Shared → Prop} {use : Option (Value → Sem Unit)}
    (hs : Src w b₀ n cx iter st P st1) (hit2 : ∀ (A : Around) (E : Value → Shared → Prop) (s : Shared) (ρ : List Addr) (it : Addr) (Q : Value → Shared → Prop), P.St 0 ρ s.heap it → Q (.ref it) s → wpAny (MO w) A (pyIter (.ref it)) Q E s)
    (hO : CompOK scope cx tgt) (hrun : CRun w b₀ n (compCx scope cx) P.B (compBase scope st1.loc) tgt elt ifs st1.H.length P.items (st1.H ++ [.list []]) [] H' acc') (hlen : P.items.length ≤ 1000)
    (hR : Room n A) (hE : EnvOK cx env) (hB : Bel w b₀ env st ρ s)
    (k : ∀ s' ρ' C Da, Stp (owns env) ρ ρ' s s' → Bel w b₀ env ⟨H', st1.loc⟩ ρ' s' → VR ρ' (.ref st1.H.length) (.ref Da) → C ∉ ρ' → C ∉ owns env → b₀.get? C = none → s.heap.objs.size ≤ C → (∃ m, s'.heap.Ns C m) → compPost (MO w) A E use Q (.ref Da) C (.ok .next) s')
    (hf : ∀ env x, foldedSetIterable iter env x = pure x := by intro _ _; rfl) :
    wpAny (MO w) A (comprehension (.ListComp elt [⟨.Name tgt p, iter, ifs, 0⟩] scope pos) scope env pos' (newList []) false (eval iter env) use) Q E s := by
  obtain ⟨cl, hcl1, hcl2, hcl3⟩ := closureFor_ok (env := env) (scope := scope) fun y hy hyf => by rw [hE.cells]; exact hO.free _ (mem_freeNames hy hyf)
  refine wpAny_comprehension_free (use := use) rfl (fun x => hf env x) hcl1 hO.kind hO.names ?_
  refine hs A env E s ρ _ hR hE hB fun s1 ρ1 it y1 hB1 hSt h1 h2 h3 h4 h5 => ?_
  refine wpAny_newList (s := s1) ?_
  obtain ⟨z1, z2⟩ := push_step hB1.sim (ob := { cls := .type "list", data := .seq ([] : List Value).toArray }) (o := .list []) ⟨[], 0, Heap.get?_push_size _ rfl, trivial⟩ s1.toks
  have hB2 : Bel w b₀ env ⟨st1.H ++ [.list []], st1.loc⟩ _ _ := hB1.step z1 z2
  have hD := vr_new (a := s1.heap.objs.size) hB1.sim
  have hSt2 : P.St 0 (ρ1 ++ [s1.heap.objs.size]) (s1.heap.push { cls := .type "list", data := .seq ([] : List Value).toArray }) it := P.keep _ _ _ _ _ _ hSt fun o e => z1.keep it o (by simp) h1 e
  have h1' : it ∉ ρ1 ++ [s1.heap.objs.size] := z1.notIn h1 h5
  refine wpAny_newFunctionEnv (s := { s1 with heap := s1.heap.push { cls := .type "list", data := .seq ([] : List Value).toArray } }) hO.nocell (fun _ h => nomatch h) (fun h' hns hsb => ?_) hO.kind
  have hsz2 : s1.heap.objs.size < s1.heap.objs.size + 1 := Nat.lt_succ_self _
  have hCsz : (s1.heap.push { cls := .type "list", data := .seq ([] : List Value).toArray }).objs.size = s1.heap.objs.size + 1 := Heap.size_push ..
  have hkp : ∀ b o, (s1.heap.push { cls := .type "list", data := .seq ([] : List Value).toArray }).get? b = some o → h'.get? b = some o := fun b o e =>
    hsb.extBut b o (Nat.ne_of_lt (Heap.lt_size e)) (Heap.get?_push_of_some _ e)
  have hsz : (s1.heap.push { cls := .type "list", data := .seq ([] : List Value).toArray }).objs.size < h'.objs.size := by obtain ⟨o, _, _, ho', _⟩ := hns; exact Heap.lt_size ho'
  obtain ⟨q1, q2⟩ := junk_step hB2.sim hkp (Nat.le_of_lt hsz) (s1.toks + ([] : List (Str × Value)).length)
  have hB3 : Bel w b₀ env ⟨st1.H ++ [.list []], st1.loc⟩ _ _ := hB2.step q1 q2
  rw [relabel_eq hE]
  generalize hhd : s1.heap.push { cls := .type "list", data := .seq ([] : List Value).toArray } = hd0 at *
  have hCb : b₀.objs.size ≤ hd0.objs.size := by rw [hCsz]; exact Nat.le_trans hB1.sim.base (Nat.le_succ _)
  have hne : ∀ p q : Str × Addr, p ∈ env.cells → q ∈ env.cells → p.2 = q.2 → p.1 = q.1 := fun p q hp hq e => by
    have hap : env.cells.Pairwise fun x y => x.2 ≠ y.2 := by
      have := hB.loc.apart
      unfold owns at this
      rw [List.nodup_cons] at this
      have h2 := this.2
      unfold List.Nodup at h2
      rw [List.pairwise_map] at h2
      exact h2
    obtain ⟨pn, pc⟩ := p
    obtain ⟨qn, qc⟩ := q
    cases (e : pc = qc)
    exact name_of_addr hap hp hq
  have hclm : ∀ p ∈ cl, p ∈ env.cells := fun p hp => mem_of_lookup (hcl3 p hp)
  have hclo : ∀ p ∈ cl, p.2 ∈ owns env := fun p hp => List.mem_cons_of_mem _ (List.mem_map.mpr ⟨p, hclm p hp, rfl⟩)
  have hclnd : (cl.map (·.2)).Nodup := by
    have h1 : (cl.map (·.1)).Nodup := by rw [hcl2]; exact hO.nodup
    unfold List.Nodup at h1 ⊢
    rw [List.pairwise_map] at h1 ⊢
    exact h1.imp_of_mem fun {p q} hp hq hpq e => hpq (hne p q (hclm p hp) (hclm q hq) e)
  have hClt : hd0.objs.size < h'.objs.size := hsz
  have hCown : hd0.objs.size ∉ owns env := fun h => by
    have h9 : @LT.lt Nat _ hd0.objs.size s1.heap.objs.size := hB1.loc.there _ h
    omega
  have hCrho : hd0.objs.size ∉ ρ1 ++ [s1.heap.objs.size] := fun h => by
    exact Nat.lt_irrefl _ (z2.lt h)
  let cenv : Env := { scope := relS scope cx.sc, locals := hd0.objs.size, globals := env.globals, cells := cl, qual := env.qual, func := none, code := env.code, frame := env.frame, builtins := env.builtins }
  have hE' : EnvOK (compCx scope cx) cenv := ⟨rfl, hO.kind, hE.globals, hE.builtins, hcl2, hE.frame⟩
  have hown : owns cenv = (hd0.objs.size) :: cl.map (·.2) := rfl
  have h5' : @LT.lt Nat _ it s1.heap.objs.size := h5
  have hitC : it ≠ hd0.objs.size := fun e => by
    have e' : @Eq Nat it hd0.objs.size := e
    omega
  have hitown : it ∉ owns cenv := by
    rw [hown]
    intro h
    rcases List.mem_cons.mp h with q | q
    · exact hitC q
    · obtain ⟨p, hp, e⟩ := List.mem_map.mp q
      exact h3 (e ▸ hclo p hp)
  have hB4 : Bel w b₀ cenv ⟨st1.H ++ [.list []], compBase scope st1.loc⟩ (ρ1 ++ [s1.heap.objs.size]) { s1 with heap := h', toks := s1.toks + ([] : List (Str × Value)).length } := by
    refine ⟨q2, ⟨⟨_, hns, fun y v' hy hyk => ?_⟩, fun y c hc => ?_, fun a ha => ?_, ?_, fun a ha => ?_⟩⟩
    · have hyf : y ∈ freeNames scope := by
        have : compBase scope st1.loc y = some v' := hy
        unfold compBase at this
        by_cases hm : y ∈ freeNames scope
        · exact hm
        · rw [if_neg hm] at this; cases this
      have h9 := hO.cells y hyf
      have h8 : (relS scope cx.sc).names.lookup y = some .local := hyk
      rw [h9] at h8; cases h8
    · have hyc : env.cells.lookup y = some c := hcl3 _ (mem_of_lookup hc)
      obtain ⟨ov, hcell, hval⟩ := hB3.loc.cells y c hyc
      refine ⟨ov, hcell, fun v' hv' => hval v' ?_⟩
      have : compBase scope st1.loc y = some v' := hv'
      unfold compBase at this
      split at this
      · exact this
      · cases this
    · rw [hown] at ha
      rcases List.mem_cons.mp ha with rfl | q
      · exact ⟨hCrho, hCb⟩
      · obtain ⟨p, hp, rfl⟩ := List.mem_map.mp q
        exact hB3.loc.off _ (hclo p hp)
    · rw [hown, List.nodup_cons]
      refine ⟨fun q => ?_, hclnd⟩
      obtain ⟨p, hp, e⟩ := List.mem_map.mp q
      exact hCown (e ▸ hclo p hp)
    · rw [hown] at ha
      rcases List.mem_cons.mp ha with rfl | q
      · exact hClt
      · obtain ⟨p, hp, rfl⟩ := List.mem_map.mp q
        exact hB3.loc.there _ (hclo p hp)
  have hSt4 : P.St 0 (ρ1 ++ [s1.heap.objs.size]) h' it := by
    have := P.keep 0 (ρ1 ++ [s1.heap.objs.size]) [] hd0 h' it hSt2 fun o e => hkp it o e
    simpa using this
  have hit4 : it < h'.objs.size := by
    have h9 : @LT.lt Nat _ it h'.objs.size := by omega
    exact h9
  have hDat : (ρ1 ++ [s1.heap.objs.size])[st1.H.length]? = some s1.heap.objs.size := by
    obtain ⟨a, ha, e⟩ := hD
    cases e; exact ha
  have run := hrun.run P (iter := iter) (scope := scope) (p := p) (pos := pos) hO.tk hO.tc 0 (by simp) A cenv { s1 with heap := h', toks := s1.toks + ([] : List (Str × Value)).length } (ρ1 ++ [s1.heap.objs.size]) it s1.heap.objs.size (compBase scope st1.loc)
    (compPost (MO w) A E use Q (.ref s1.heap.objs.size) (hd0.objs.size)) hR hE' hB4 (fun _ => rfl) (by simpa using hlen) hDat hSt4 h1' hitown h4 hit4 fun s' ρ' l' y hB' hl' => ?_
  · exact codeAny_compStart_list run (hit2 _ _ _ _ _ _ hSt4 run)
  · have yall : Stp (owns env) ρ ρ' s s' := Stp.drop (y1.trans ((z1.trans q1).nil)) y fun a ha => by
      rcases List.mem_cons.mp ha with rfl | q
      · exact .inr h2
      · rw [hown] at q
        rcases List.mem_cons.mp q with rfl | q
        · exact .inr (by rw [hCsz]; exact Nat.le_trans y1.size (Nat.le_succ _))
        · obtain ⟨p, hp, rfl⟩ := List.mem_map.mp q
          exact .inl (hclo p hp)
    have hkeep : ∀ a ∈ owns env, a ∉ cl.map (·.2) → a ∉ it :: owns cenv := fun a ha hn q => by
      rcases List.mem_cons.mp q with rfl | q
      · exact h3 ha
      · rw [hown] at q
        rcases List.mem_cons.mp q with rfl | q
        · exact hCown ha
        · exact hn q
    have hBo : Bel w b₀ env ⟨H', st1.loc⟩ ρ' s' := by
      refine ⟨hB'.sim, ⟨?_, fun z c hz => ?_, fun a ha => ⟨y.notIn (hB3.loc.off a ha).1 (hB3.loc.there a ha), (hB3.loc.off a ha).2⟩, hB3.loc.apart, fun a ha => Nat.lt_of_lt_of_le (hB3.loc.there a ha) y.size⟩⟩
      · obtain ⟨m, ⟨o, es, ep, ho, r⟩, hm⟩ := hB3.loc.ns
        have hL : env.locals ∈ owns env := List.mem_cons_self
        have hLn : env.locals ∉ cl.map (·.2) := fun q => by
          have hap := hB.loc.apart
          unfold owns at hap
          rw [List.nodup_cons] at hap
          obtain ⟨p, hp, e⟩ := List.mem_map.mp q
          exact hap.1 (e ▸ List.mem_map.mpr ⟨p, hclm p hp, rfl⟩)
        refine ⟨m, ⟨o, es, ep, y.keep _ _ (hkeep _ hL hLn) (hB3.loc.off _ hL).1 ho, r⟩, fun z v h6 h7 => ?_⟩
        obtain ⟨u, h8, h9⟩ := hm z v h6 h7
        exact ⟨u, h8, y.vr h9⟩
      · have hm : (z, c) ∈ env.cells := mem_of_lookup hz
        have hc : c ∈ owns env := List.mem_cons_of_mem _ (List.mem_map.mpr ⟨_, hm, rfl⟩)
        by_cases hin : c ∈ cl.map (·.2)
        · obtain ⟨p, hp, e⟩ := List.mem_map.mp hin
          have hpz : p.1 = z := hne p (z, c) (hclm p hp) hm e
          have hpe : p = (z, c) := Prod.ext hpz e
          have hlk : cenv.cells.lookup z = some c := lookup_of_mem_nodup (by rw [show cenv.cells.map (·.1) = freeNames scope from hcl2]; exact hO.nodup) (hpe ▸ hp)
          obtain ⟨ov, hcell, hval⟩ := hB'.loc.cells z c hlk
          refine ⟨ov, hcell, fun v' hv' => hval v' ?_⟩
          have hzf : z ∈ freeNames scope := by rw [← hcl2]; exact List.mem_map.mpr ⟨p, hp, hpz⟩
          have hzt : z ≠ tgt := fun e => hO.tc (e ▸ hzf)
          have h6 := congrFun (hl' (.bool true)) z
          unfold upd at h6
          rw [if_neg hzt, if_neg hzt] at h6
          rw [show (ASt.mk H' l').loc z = l' z from rfl, h6]
          unfold compBase
          rw [if_pos hzf]; exact hv'
        · obtain ⟨ov, ⟨o, ho, hd⟩, hval⟩ := hB3.loc.cells z c hz
          refine ⟨ov, ⟨o, y.keep c o (hkeep c hc hin) (hB3.loc.off c hc).1 ho, hd⟩, fun v' hv' => ?_⟩
          obtain ⟨u, h6, h7⟩ := hval v' hv'
          exact ⟨u, h6, y.vr h7⟩
    obtain ⟨m', hm', _⟩ := hB'.loc.ns
    exact k s' ρ' hd0.objs.size s1.heap.objs.size yall hBo (y.vr hD) (y.notIn hCrho hClt) hCown (Heap.get?_none_of_le hCb) (by rw [hCsz]; exact Nat.le_trans y1.size (Nat.le_succ _)) ⟨m', hm'⟩

theorem Ev.comp {P : Prot w b₀} {tgt : Str} {elt iter : Expr} {ifs : List Expr} {acc' : List AVal} {H' : List AObj} {scope : Scope} {p : Pos}
    (hs : Src w b₀ n cx iter st P st1) (hit2 : ∀ (A : Around) (E : Value → Shared → Prop) (s : Shared) (ρ : List Addr) (it : Addr) (Q : Value → Shared → Prop), P.St 0 ρ s.heap it → Q (.ref it) s → wpAny (MO w) A (pyIter (.ref it)) Q E s)
    (hO : CompOK scope cx tgt) (hrun : CRun w b₀ n (compCx scope cx) P.B (compBase scope st1.loc) tgt elt ifs st1.H.length P.items (st1.H ++ [.list []]) [] H' acc') (hlen : P.items.length ≤ 1000)
    (hf : ∀ env x, foldedSetIterable iter env x = pure x := by intro _ _; rfl) :
    Ev w b₀ n cx (.ListComp elt [⟨.Name tgt p, iter, ifs, 0⟩] scope pos) st (.ref st1.H.length) ⟨H', st1.loc⟩ := by
  intro A env E s ρ Q hR hE hB k
  refine comp_core (use := none) (Q := Q) hs hit2 hO hrun hlen hR hE hB (fun s' ρ' C Da y hB' hv h1 h2 h3 h4 h5 => ?_) hf
  obtain ⟨m, hm⟩ := h5
  refine ⟨m, hm, fun h' hsb => ?_⟩
  obtain ⟨y2, hB2⟩ := iter_step hB' hsb h1 h2 h3 s'.toks
  exact k _ _ _ (Stp.drop y y2 fun a ha => .inr (by rw [List.mem_singleton.mp ha]; exact h4)) hB2 hv

theorem Ex.assignComp {P : Prot w b₀} {tgt y : Str} {elt iter : Expr} {ifs : List Expr} {acc' : List AVal} {H' : List AObj} {scope : Scope} {p p2 spos : Pos}
    (hs : Src w b₀ n cx iter st P st1) (hit2 : ∀ (A : Around) (E : Value → Shared → Prop) (s : Shared) (ρ : List Addr) (it : Addr) (Q : Value → Shared → Prop), P.St 0 ρ s.heap it → Q (.ref it) s → wpAny (MO w) A (pyIter (.ref it)) Q E s)
    (hO : CompOK scope cx tgt) (hrun : CRun w b₀ n (compCx scope cx) P.B (compBase scope st1.loc) tgt elt ifs st1.H.length P.items (st1.H ++ [.list []]) [] H' acc') (hlen : P.items.length ≤ 1000)
    (hk : cx.sc.names.lookup y = some .local) (hc : y ∉ cx.cn) (hsw : ∀ env, EnvOK cx env → swapsWith (.ListComp elt [⟨.Name tgt p, iter, ifs, 0⟩] scope pos) (some (.Name y p2)) spos.line env = pure true)
    (hf : ∀ env x, foldedSetIterable iter env x = pure x := by intro _ _; rfl) :
    Ex w b₀ n cx (.Assign [.Name y p2] (.ListComp elt [⟨.Name tgt p, iter, ifs, 0⟩] scope pos) spos) st .next ⟨H', upd st1.loc y (.ref st1.H.length)⟩ := by
  intro A env E s ρ Q hR hE hB k
  rw [exec_Assign_Name_used _ _ _ _ (hsw env hE)]
  refine wpAny_bind (wpAny_standAt (wpAny_bind ?_))
  show wpAny _ A (do let _ ← comprehension (.ListComp elt [⟨.Name tgt p, iter, ifs, 0⟩] scope pos) scope env _ (newList []) false (eval iter env) (some (PySem.assign (.Name y p2) env))) _ _ s
  refine wpAny_bind (wpAny_mono (comp_core (use := some (PySem.assign (.Name y p2) env)) (Q := fun _ s' => Q .next s') hs hit2 hO hrun hlen hR hE hB (fun s' ρ' C Da yy hB' hv h1 h2 h3 h4 h5 => ?_) hf) (fun _ s' hq => wpAny_pure (wpAny_pure hq)) fun _ _ e => e)
  show wpAny _ A (PySem.assign (.Name y p2) env (.ref Da)) _ _ s'
  obtain ⟨m, o, es, ep, ho, r⟩ := h5
  refine wpAny_assign_Name (store_local hE hB' hk hc hv fun s2 y2 hB2 => ?_)
  have hC2 : s2.heap.get? C = some o := y2.keep C o h2 h1 ho
  refine ⟨m, ⟨o, es, ep, hC2, r⟩, fun h' hsb => ?_⟩
  obtain ⟨y3, hB3⟩ := iter_step hB2 hsb (y2.notIn h1 (Heap.lt_size ho)) h2 h3 s2.toks
  exact k _ _ _ (Stp.drop (yy.trans y2) y3 fun a ha => .inr (by rw [List.mem_singleton.mp ha]; exact h4)) hB3 rfl
end

section
variable {w : World} {b₀ : Heap} {n : Nat} {cx cx' : Cx} {st st1 st2 st3 : ASt} {v v1 v2 v3 : AVal} {pos apos : Pos} {x : Str} {K : Frag} {H : List AObj} {f : AFlow}

theorem Ev.dict1 {kE vE : Expr} (hk : Ev w b₀ n cx kE ⟨st.H ++ [.dict []], st.loc⟩ (.str x) st1) (hv : Ev w b₀ n cx vE st1 v st2) (hd : st2.H[st.H.length]? = some (.dict [])) :
    Ev w b₀ n cx (.Dict [some kE] [vE] pos) st (.ref st.H.length) ⟨st2.H.set st.H.length (.dict [(x, v)]), st2.loc⟩ := by
  intro A env E s ρ Q hR hE hB k
  obtain ⟨z1, z2⟩ := push_step hB.sim (ob := { cls := .type "dict", data := .dict #[] }) (o := .dict []) ⟨[], Heap.DictOf.new _, trivial⟩ s.toks
  have hB0 : Bel w b₀ env ⟨st.H ++ [.dict []], st.loc⟩ _ _ := hB.step z1 z2
  have hD := vr_new (a := s.heap.objs.size) hB.sim
  refine wpAny_Dict_pairs (knd := strKind PR w) (pairs := [(eval kE env, do let x ← eval vE env; standAt pos; pure x)]) rfl (by simp) (by simp) (evalPairs_cons ?_)
  refine hk A env E _ _ _ hR hE hB0 fun s1 ρ1 u1 y1 hB1 hv1 => ?_
  refine wpAny_bind (hv A env E s1 ρ1 _ hR hE hB1 fun s2 ρ2 u2 y2 hB2 hv2 => wpAny_bind (wpAny_standAt (wpAny_pure (evalPairs_nil ?_))))
  obtain ⟨t, rfl⟩ := hv1
  obtain ⟨a, kus, e, ha, hdo, hkr⟩ := hB2.sim.dict (y2.vr (y1.vr hD)) hd
  cases e
  cases kus with
  | cons _ _ => exact hkr.elim
  | nil =>
    refine ⟨[(x, u2)], ⟨strKind_is _ _ _ _, rfl, trivial⟩, hdo, fun h' hd' hsb => ?_⟩
    obtain ⟨q1, q2⟩ := upd_step hB2.sim ha hsb (o := .dict [(x, v)]) ⟨_, hd', by
      show KRs ρ2 [(x, v)] (merged [] [(x, u2)])
      exact ⟨⟨rfl, hv2⟩, trivial⟩⟩ (s2.toks + [(Value.str x t, u2)].length)
    exact k _ _ _ (((z1.nil.trans y1).trans y2).trans q1.nil) (hB2.step q1 q2) (y2.vr (y1.vr hD))

theorem ER.isSome {ρ : List Addr} {vs : List (Str × AVal)} {es : List DictEntry} {m : Nat} (h : ER ρ vs es) : (lookIn x (dictOf es m)).isSome = true := by
  have := h.look (x := x) (m := m)
  cases hx : aget vs x with
  | some v => rw [hx] at this; obtain ⟨u, e, _⟩ := this; rw [e]; rfl
  | none => rw [hx] at this; rw [show lookIn x (dictOf es m) = some none from this]; rfl

theorem nput_len : ∀ {kvs : List (Str × AVal)}, (nput kvs x v).length ≤ kvs.length + 1
  | [] => by simp [nput]
  | p :: r => by unfold nput; split <;> simp; exact nput_len

theorem Ex.setAttr {o e : Expr} {i d C : Nat} {cd : ClassData} {kvs : List (Str × AVal)} {attr : Str} {p : Pos} (G : Glo K b₀) (P : PlainCls K C cd) (he : Ev w b₀ n cx e st v st1) (ho : Ev w b₀ n cx o st1 (.ref i) st2)
    (hi : st2.H[i]? = some (.inst C d)) (hd : st2.H[d]? = some (.ns kvs)) (ht : takerIn K C attr = some none) (hz : kvs.length ≤ 500)
    (hs : ∀ env, swapsWith e (some (.Attribute o attr p)) pos.line env = pure false := by intro _; rfl) :
    Ex w b₀ n cx (.Assign [.Attribute o attr p] e pos) st .next ⟨st2.H.set d (.ns (nput kvs attr v)), st2.loc⟩ := by
  intro A env E s ρ Q hR hE hB k
  refine plainObj_wpAny_Assign_Attribute (he A env E s ρ _ hR hE hB fun s1 ρ1 u1 y1 hB1 hv1 => ho A env E s1 ρ1 _ hR hE hB1 fun s2 ρ2 u2 y2 hB2 hv2 => ?_) (hs env)
  obtain ⟨a, dx, es, m, rfl, ha, hdx, hga, hgd, hes, hI⟩ := inst_at hB2.sim hv2 hi hd
  refine set_plain (hB2.sim.inn G) hI P.sattr ?_
  have hB3 := hB2.toks (s2.toks + 1)
  have y3 : Stp (owns env) ρ2 ρ2 s2 { s2 with toks := s2.toks + 1 } := Stp.toks _
  have hI' : InstAt ({ s2 with toks := s2.toks + 1 } : Shared).heap a (instObj C dx) C (some (dictOf es m)) := hI
  generalize s2.toks = tk at *
  have hga' : ({ s2 with toks := tk + 1 } : Shared).heap.get? a = some (instObj C dx) := hga
  have hgd' : ({ s2 with toks := tk + 1 } : Shared).heap.get? dx = some (dictOf es m) := hgd
  generalize ({ s2 with toks := tk + 1 } : Shared) = s3 at *
  refine osa_open (hB3.sim.inn G) hI' P.plain ht fun b => ?_
  refine wpAny_bind (wpAny_pure (wpAny_bind (wpAny_bind (wpAny_loadPart hga' (wpAny_bind ((looks_clsIn (hB3.sim.inn G) P.cls).here ?_))))))
  rw [P.hasDict]
  refine wpAny_pure (a := some dx) (wpAny_bind (wpAny_pure (wpAny_bind ?_)))
  unfold nsSet
  refine wpAny_bind (wpAny_bind (wpAny_askSetting (wpAny_pure (wpAny_bind (wpAny_mkText (wpAny_bind (wpAny_loadPart hgd' ?_)))))))
  have c : (!(es.toArray.any (·.key.isStr attr)) && es.toArray.any (·.refKey)) = false := by
    rw [← Array.any_toList, ← Array.any_toList]
    show (_ && es.any _) = false
    rw [hes.noRef, Bool.and_false]
  dsimp only [dictOf]
  rw [aRefKeyMayBeTheName_at, c]
  refine wpAny_updatePart hgd' ?_
  have e1 := putName_dict attr (PyData.keyHash w.params attr) (.str attr s3.toks) u1 es m
  have hlen : (putL attr (PyData.keyHash w.params attr) (.str attr s3.toks) u1 es).length ≤ 1000 := by
    have h1 := (ER.put (x := attr) (hsh := PyData.keyHash w.params attr) (t := s3.toks) (y2.vr hv1) hes).length
    rw [h1]
    have : (nput kvs attr v).length ≤ kvs.length + 1 := by
      exact nput_len
    omega
  obtain ⟨hh, g, dr, tk3, os⟩ := s3
  dsimp only at *
  obtain ⟨z1, z2⟩ := upd_step hB3.sim hdx (Heap.SameBut.update ..) (h' := hh.update dx (Obj.putName attr (PyData.keyHash w.params attr) (.str attr tk3) u1)) (o := .ns (nput kvs attr v)) ⟨_, _, by
      rw [Heap.get?_update_self _ hgd' (by rw [e1]; rfl), e1], ER.put (y2.vr hv1) hes⟩ (tk3 + 1)
  refine wpAny_bind (wpAny_lookBehind (o := dictOf (putL attr (PyData.keyHash w.params attr) (.str attr tk3) u1 es) (putN attr es m)) ?_ (pastItsLine_dict (by rw [List.size_toArray, sizeLine_eq]; exact Nat.le_trans (by assumption) (by decide))) ?_)
  · show (hh.update dx (Obj.putName attr (PyData.keyHash w.params attr) (.str attr tk3) u1)).get? dx = _
    rw [Heap.get?_update_self _ hgd' (by rw [e1]; rfl), e1]
  exact wpAny_pure (k _ _ _ (((y1.trans y2).trans y3).trans z1.nil) (hB3.step z1 z2) rfl)

theorem Room.under {A : Around} {C : Addr} {us : List Value} (h : Room (n + 1) A) : Room n (A.under (.builtin "type.__call__" ⟨.ref C :: us, []⟩)) := by
  refine ⟨h.handled, ?_, ?_⟩
  · have h1 := h.depth
    have h2 : (A.under (.builtin "type.__call__" ⟨.ref C :: us, []⟩)).depth = A.depth + 1 := rfl
    rw [h2]; exact om6 (by assumption) (by first | exact Nat.le_refl _ | decide)
  · have h1 := h.units
    have h2 : (A.under (.builtin "type.__call__" ⟨.ref C :: us, []⟩)).units = A.units + 1 := rfl
    rw [h2]; omega

/-- a class called -/
theorem Cal.make {C fi : Addr} {as : List AVal} {H' : List AObj} (G : Glo K b₀) (hm : makesIn K C = true) (hi : findIn K (.ref C) "__init__" = some (some (.ref fi))) (ht : typeIn K (.ref fi) = some (.type "function"))
    (hc : Cod w b₀ n (.ref fi) (.ref (H.length + 1) :: as) (H ++ [.ns [], .inst C H.length]) .none H') : Cal w b₀ (n + 1) (.val (.ref C)) as H (.ref (H.length + 1)) H' := by
  intro A E s ρ fu us Q hR hS hf hus k
  cases (hf : fu = _)
  obtain ⟨hh, g, d, t, os⟩ := s
  have X : K.In hh := hS.inn G
  refine wpAny_call (make_core (makes_of X hm) (looks_findIn X hi) (fun self => bind_fn X self ht) (.inl (by simp)) ?_)
  obtain ⟨y1, S1⟩ := push_step (s := ⟨hh, g, d, t, os⟩) hS (ob := emptyDict) (o := .ns []) ⟨[], 0, Heap.get?_push_size _ rfl, trivial⟩ t
  have hd := vr_new (a := hh.objs.size) hS
  obtain ⟨dx, hdx, e⟩ := hd
  cases e
  obtain ⟨y2, S2⟩ := push_step (s := ⟨hh.push emptyDict, g, d, t, os⟩) S1 (ob := instObj C hh.objs.size) (o := .inst C H.length) ⟨hh.objs.size, by
    rw [List.getElem?_append_left (List.getElem?_eq_some_iff.mp hdx).1]; exact hdx, Heap.get?_push_size _ rfl⟩ t
  have hx := vr_new (a := (hh.push emptyDict).objs.size) S1
  rw [show H ++ [AObj.ns []] ++ [AObj.inst C H.length] = H ++ [AObj.ns [], AObj.inst C H.length] by simp] at S2
  have hlen : (H ++ [AObj.ns []]).length = H.length + 1 := by simp
  rw [hlen] at hx
  have hsz : (hh.push emptyDict).objs.size = hh.objs.size + 1 := Heap.size_push ..
  have y12 : Stp [] ρ _ ⟨hh, g, d, t, os⟩ ⟨(hh.push emptyDict).push (instObj C hh.objs.size), g, d, t, os⟩ := y1.trans y2
  dsimp only at S2 hx y12
  rw [hsz] at S2 hx y12
  exact hc (A.under (.builtin "type.__call__" ⟨.ref C :: us, []⟩)) _ _ (.ref (hh.objs.size + 1) :: us) _ hR.under S2 ⟨hx, y12.vrs hus⟩ fun s' ρ' r y3 S3 hr => ⟨hr, k _ _ _ (y12.trans y3) S3 (y3.vr hx)⟩
end

section
variable {w : World} {b₀ : Heap} {n : Nat} {cx cx' : Cx} {st st1 st2 st3 : ASt} {v v1 v2 v3 : AVal} {pos apos : Pos} {x : Str} {K : Frag} {H : List AObj} {f : AFlow}

theorem setItem_have {A : Around} {E : Value → Shared → Prop} {s : Shared} {d : Addr} {kvs : List (Str × Value)} {k : Str} {key v : Value} {ep : Nat} {Q : Unit → Shared → Prop} (hkey : (strKind PR w).is k key = true) (hm : s.heap.DictAt (strKind PR w) d kvs ep)
    (hin : k ∈ kvs.map (·.1)) (_hsz : kvs.length ≤ sizeLine)
    (hQ : ∀ h', h'.DictAt (strKind PR w) d (stored kvs k v) ep → Heap.SameBut d s.heap h' → Q () { s with heap := h', toks := s.toks + 1 }) : wpAny (MO w) A (setItem (.ref d) key v) Q E s := by
  have hT := hm.dictOf.typeIs
  unfold setItem
  try with_reducible refine wpAny_holding ?_
  refine wpAny_bind (wpAny_sequenceKey hT (by decide) ?_)
  refine wpAny_bind (wpAny_callSpecial?_slot (name := Str.ofString "__setitem__") hT slot_dict_setitem
    (wpAny_call_entry slot_dict_setitem hT entry_dict_setitem ?_ (args_dict_setitem _ _ _)))
  show wpAny _ _ (Builtin.Dict.notOrdered "__setitem__" ⟨[.ref d, key, v], []⟩ >>= _) _ _ s
  refine wpAny_bind (wpAny_notOrdered_dict hT ?_)
  show wpAny _ _ (dictSet d key v >>= _) _ _ s
  refine wpAny_bind ?_
  obtain ⟨o, es, ho, hc, hd, hk, hp, hn⟩ := hm
  unfold dictSet
  try with_reducible refine wpAny_holding ?_
  refine wpAny_bind ((strKind PR w).pyHash hkey ?_)
  unfold dictSetHashed
  try with_reducible refine wpAny_holding ?_
  refine wpAny_bind (wpAny_dictFind_of (s := { s with toks := s.toks + 1 }) hkey ho hd hk ?_)
  have hidx : (es.findIdx? fun e => (strKind PR w).is k e.key) = kvs.findIdx? fun kv => decide (kv.1 = k) := by
    rw [← hp.findIdx k]; obtain ⟨l⟩ := es; simp
  cases hi : es.findIdx? fun e => (strKind PR w).is k e.key with
  | none => exact absurd hin (not_mem_of_findIdx_none (hidx ▸ hi))
  | some i =>
    refine wpAny_bind (wpAny_rule (wpAny_bind (wpAny_updateDict (s := { s with toks := s.toks + 1 }) ho hd (wpAny_point (wpAny_pure ⟨.none, rfl, wpAny_pure (hQ _ ⟨_, _, Heap.get?_update_self _ ho (Obj.isFreed_of_dict (Obj.data_mapDict hd _)),
      hc.mapDict _, Obj.data_mapDict hd _, hk.modify _ _, ?_, ?_⟩ (Heap.SameBut.update ..))⟩)))))
    · rw [stored, if_pos (any_of_findIdx_some (hidx ▸ hi))]
      have hl : (es.toList.findIdx? fun e => (strKind PR w).is k e.key) = some i := by rw [← hi]; obtain ⟨l⟩ := es; simp
      have := hp.modify hn hl v
      obtain ⟨l⟩ := es
      simpa using this
    · rw [stored, if_pos (any_of_findIdx_some (hidx ▸ hi)), keys_map_store]; exact hn

/-- the same with what stays -/
theorem store_localX {A : Around} {env : Env} {E : Value → Shared → Prop} {s : Shared} {ρ : List Addr} {Q : Unit → Shared → Prop} {u : Value} (hE : EnvOK cx env) (hB : Bel w b₀ env st ρ s) (hk : cx.sc.names.lookup x = some .local) (hc : x ∉ cx.cn) (hv : VR ρ v u)
    (k : ∀ s', Stp (owns env) ρ ρ s s' → Bel w b₀ env { st with loc := upd st.loc x v } ρ s' → (∀ b o, b ≠ env.locals → s.heap.get? b = some o → s'.heap.get? b = some o) → Q () s') : wpAny (MO w) A (storeName env x u) Q E s := by
  have hk' : env.kindOf x = some .local := (hE.kindOf x).trans hk
  obtain ⟨m, hn, hm⟩ := hB.loc.ns
  have hL : env.locals ∈ owns env := List.mem_cons_self
  refine wpAny_storeName_local hk' hn (fun h' hn' hs => ?_) hE.notClass
  have hkeep : ∀ b o, b ≠ env.locals → s.heap.get? b = some o → h'.get? b = some o := fun b o hb e => (hs.2 b hb).trans e
  refine k _ ⟨⟨[], by simp, by simp⟩, Nat.le_of_eq hs.1.symm, fun b o h1 _ e => hkeep b o (fun q => h1 (q ▸ hL)) e, rfl⟩ ⟨⟨hB.sim.len, hB.sim.nodup, fun i o hi => ?_, hB.sim.fresh, fun b o e => hkeep b o ?_ (hB.sim.stat b o e), by show _ ≤ h'.objs.size; rw [hs.1]; exact hB.sim.base⟩, ?_⟩ hkeep
  · obtain ⟨a, ha, ho⟩ := hB.sim.objs i o hi
    exact ⟨a, ha, ho.keep fun ob e => hkeep a ob (fun q => (hB.loc.off _ hL).1 (q ▸ List.mem_of_getElem? ha)) e⟩
  · rintro rfl
    exact Nat.lt_irrefl _ (Nat.lt_of_lt_of_le (Heap.lt_size e) (hB.loc.off _ hL).2)
  · refine ⟨⟨_, hn', fun z v' hz hzk => ?_⟩, fun z c hzc => ?_, hB.loc.off, hB.loc.apart, fun a ha => by show a < h'.objs.size; rw [hs.1]; exact hB.loc.there a ha⟩
    · by_cases e : z = x
      · subst e
        simp only [upd, if_true] at hz ⊢
        cases hz
        exact ⟨u, rfl, hv⟩
      · simp only [upd, if_neg e] at hz ⊢
        exact hm z v' hz hzk
    · obtain ⟨ov, ⟨o, ho, hd⟩, h2⟩ := hB.loc.cells z c hzc
      have hmem : (z, c) ∈ env.cells := mem_of_lookup hzc
      have hcL : c ≠ env.locals := by
        have := hB.loc.apart
        unfold owns at this
        rw [List.nodup_cons] at this
        rintro rfl
        exact this.1 (List.mem_map.mpr ⟨_, hmem, rfl⟩)
      refine ⟨ov, ⟨o, hkeep c o hcL ho, hd⟩, fun v' hv' => ?_⟩
      have hzx : z ≠ x := by
        rintro rfl
        exact hc (hE.cells ▸ List.mem_map.mpr ⟨_, hmem, rfl⟩)
      simp only [upd, if_neg hzx] at hv'
      exact h2 v' hv'

def mT (T : List (Str × AVal)) (ks : List Str) : List (Str × AVal) := ks.foldl (fun acc k => aput acc k (.bool true)) T
def lastLoc (loc : Str → Option AVal) (x : Str) (ks : List Str) : Str → Option AVal := ks.foldl (fun l k => upd l x (.str k)) loc

theorem aput_len {kvs : List (Str × AVal)} : (aput kvs x v).length ≤ kvs.length + 1 := by
  unfold aput; split <;> simp

theorem KRs.keys {ρ : List Addr} : ∀ {vs : List (Str × AVal)} {us : List (Str × Value)}, KRs ρ vs us → vs.map (·.1) = us.map (·.1)
  | [], [], _ => rfl
  | _ :: _, _ :: _, ⟨⟨e, _⟩, b⟩ => by simp only [List.map_cons, e, b.keys]
theorem aput_keys {kvs : List (Str × AVal)} (h : x ∈ kvs.map (·.1)) : (aput kvs x v).map (·.1) = kvs.map (·.1) := by
  unfold aput
  have : (kvs.any fun kv => decide (kv.1 = x)) = true := by
    rw [List.any_eq_true]
    obtain ⟨p, hp, e⟩ := List.mem_map.mp h
    exact ⟨p, hp, by simpa using e⟩
  rw [if_pos this, List.map_map]
  refine List.map_congr_left fun p _ => ?_
  simp only [Function.comp]
  split <;> rfl
theorem stored_keys {kvs : List (Str × Value)} {u : Value} (h : x ∈ kvs.map (·.1)) : (stored kvs x u).map (·.1) = kvs.map (·.1) := by
  unfold stored
  have : (kvs.any fun kv => decide (kv.1 = x)) = true := by
    rw [List.any_eq_true]
    obtain ⟨p, hp, e⟩ := List.mem_map.mp h
    exact ⟨p, hp, by simpa using e⟩
  rw [if_pos this, keys_map_store]

theorem merge_loop {tn tok : Str} {p1 p3 p4 p5 p7 : Pos} {kd i : Nat} {A : Around} {env : Env} {R : Result → Shared → Prop} {it a b : Addr} {ep : Nat} {keys : List Str} (htn : cx.sc.names.lookup tn = some .local) (htk : cx.sc.names.lookup tok = some .local) (hc : tok ∉ cx.cn) (hne : tok ≠ tn)
    (hdt : (tn == ("__debug__" : Str)) = false) (hdk : (tok == ("__debug__" : Str)) = false) (hR : Room n A) (hE : EnvOK cx env) : ∀ (rest : List Str) (k : Nat) (s : Shared) (ρ : List Addr) (st : ASt) (T : List (Str × AVal)) (kus : List (Str × Value)),
    keys.drop k = rest → Bel w b₀ env st ρ s → st.H[i]? = some (.dict T) → st.loc tn = some (.ref i) → ρ[i]? = some a → b ∈ ρ → s.heap.DictAt (strKind PR w) b kus ep → kus.map (·.1) = keys → (a = b → KRs ρ T kus) →
    s.heap.IsKeyIter it b k keys.length ep → it ∉ ρ → it ∉ owns env → b₀.get? it = none → it < s.heap.objs.size → T.length + rest.length ≤ 1000 → keys.length ≤ 1000 →
    (∀ s' , Stp (it :: owns env) ρ ρ s s' → Bel w b₀ env ⟨st.H.set i (.dict (mT T rest)), lastLoc st.loc tok rest⟩ ρ s' → R (.ok .next) s') →
    codeAny (MO w) A (.forLoop (.Name tok p1) (.ref it) [.Assign [.Subscript (.Name tn p3) (.Name tok p4) p5] (.Constant (.bool true) kd p7) pos] [] env) R s := by
  have sub : ∀ {env : Env} {it : Addr} (a : Addr), a ∈ owns env → a ∈ it :: owns env := fun a h => List.mem_cons_of_mem _ h
  have one : ∀ {env : Env} {it : Addr} (a : Addr), a ∈ [it] → a ∈ it :: owns env := fun a h => by rw [List.mem_singleton.mp h]; exact List.mem_cons_self
  intro rest
  induction rest with
  | nil =>
    intro k s ρ st T kus hk hB hi htl ha hb hD hks hKR hit h1 h2 h3 h4 hz hz2 kk
    have hlen : kus.length = keys.length := by rw [← hks, List.length_map]
    have hnone : kus[k]? = none := List.getElem?_eq_none (by have := congrArg List.length hk; simp at this; omega)
    refine for_step (with_size (wpAny_pyNext_dict_end hR.handled (by rw [hlen]; exact hit) hD hnone fun h' hs hzz => ?_))
    obtain ⟨y1, hB1⟩ := iter_end hB hs hzz h1 h2 h3 s.toks
    refine kk _ (y1.weaken one) ?_
    have : st.H.set i (.dict (mT T [])) = st.H := by
      show st.H.set i (.dict T) = _
      exact List.ext_getElem? fun j => by
        by_cases e : i = j
        · subst e; rw [List.getElem?_set_self (List.getElem?_eq_some_iff.mp hi).1, hi]
        · rw [List.getElem?_set_ne e]
    rw [this]
    exact hB1
  | cons x rest ih =>
    intro k s ρ st T kus hk hB hi htl ha hb hD hks hKR hit h1 h2 h3 h4 hz hz2 kk
    have hlen : kus.length = keys.length := by rw [← hks, List.length_map]
    have hkx : keys[k]? = some x := by
      have h1 := List.getElem?_drop (xs := keys) (i := k) (j := 0)
      rw [hk] at h1
      simpa using h1.symm
    have hk' : keys.drop (k + 1) = rest := by
      have : keys.drop (k + 1) = (keys.drop k).drop 1 := by rw [List.drop_drop]
      rw [this, hk]; rfl
    obtain ⟨vx, hvx⟩ : ∃ vx, kus[k]? = some (x, vx) := by
      rw [← hks, List.getElem?_map] at hkx
      obtain ⟨p, hp, e⟩ := Option.map_eq_some_iff.mp hkx
      exact ⟨p.2, by rw [hp, ← e]⟩
    have hbit : b ≠ it := fun e => h1 (e ▸ hb)
    refine for_step (wpAny_pyNext_dict_item (by rw [hlen]; exact hit) hD hvx fun key h' hkey hit' hs => ?_)
    obtain ⟨y1, hB1⟩ := iter_step hB hs h1 h2 h3 s.toks
    have hD1 : h'.DictAt (strKind PR w) b kus ep := hD.extBut hs.extBut hbit
    obtain ⟨o, g1, g2, g3⟩ := id hit'
    refine letgo_any (s := { s with heap := h' }) g1 g2 g3 (by decide +kernel) ?_
    have hkv : ∃ t, key = .str x t := Value.isStrOf_shape hkey
    obtain ⟨t, rfl⟩ := hkv
    refine wpAny_assign_Name (store_localX (v := .str x) hE hB1 htk hc ⟨t, rfl⟩ fun s2 y2 hB2 hk2 => ?_)
    have hbL : b ≠ env.locals := fun e => (hB.loc.off _ List.mem_cons_self).1 (e ▸ hb)
    have hitL : it ≠ env.locals := fun e => h2 (e ▸ List.mem_cons_self)
    have hD2 : s2.heap.DictAt (strKind PR w) b kus ep := by
      obtain ⟨o, es, ho, r⟩ := hD1
      exact ⟨o, es, hk2 b o hbL ho, r⟩
    have hit2 : s2.heap.IsKeyIter it b (k + 1) keys.length ep := by
      obtain ⟨o, ho, r⟩ := hit'
      exact ⟨o, hk2 it o hitL ho, by rw [hlen] at r; exact r⟩
    refine wpAny_execs_cons (wpAny_Assign_Subscript (PySem.wpAny_Constant_bool ?_) rfl)
    obtain ⟨m, hn, hm⟩ := hB2.loc.ns
    have hkt : env.kindOf tn = some .local := (hE.kindOf tn).trans htn
    have hkk : env.kindOf tok = some .local := (hE.kindOf tok).trans htk
    obtain ⟨ut, hut, a', ha', rfl⟩ := hm tn (.ref i) (by show upd st.loc tok _ tn = _; unfold upd; rw [if_neg (Ne.symm hne)]; exact htl) hkt
    rw [ha] at ha'; cases ha'
    obtain ⟨uk, huk, t', rfl⟩ := hm tok (.str x) (by show upd st.loc tok _ tok = _; unfold upd; rw [if_pos rfl]) hkk
    refine wpAny_Name (wpAny_loadName_local hE.k hkt hn hut ?_) hdt
    refine wpAny_Name (wpAny_loadName_local hE.k hkk hn huk ?_) hdk
    simp only [List.length_cons] at hz
    have tail : ∀ h'' tk, Heap.SameBut a s2.heap h'' → OR w ρ h'' a (.dict (aput T x (.bool true))) → (∃ kus', h''.DictAt (strKind PR w) b kus' ep ∧ kus'.map (·.1) = keys ∧ (a = b → KRs ρ (aput T x (.bool true)) kus')) →
        wpAny (MO w) A (execs [] env) (fun f s₃ => match f with
          | .next | .cont => codeAny (MO w) A (.forLoop (.Name tok p1) (.ref it) [.Assign [.Subscript (.Name tn p3) (.Name tok p4) p5] (.Constant (.bool true) kd p7) pos] [] env) R s₃
          | .brk => R (.ok .next) s₃
          | .ret v => R (.ok (.ret v)) s₃) (notedBy (MO w) A env fun e s' => R (.error e) s') { s2 with heap := h'', toks := tk } := by
      intro h'' tk hsa hor ⟨kus', q1, q2, q3⟩
      refine wpAny_execs_nil ?_
      obtain ⟨z1, z2⟩ := upd_step hB2.sim ha hsa hor tk
      have hita : it ≠ a := fun e => h1 (e ▸ List.mem_of_getElem? ha)
      have hit3 : h''.IsKeyIter it b (k + 1) keys.length ep := hit2.extBut hsa.extBut hita
      refine ih (k + 1) _ ρ ⟨st.H.set i (.dict (aput T x (.bool true))), upd st.loc tok (.str x)⟩ (aput T x (.bool true)) kus' hk' (hB2.step z1 z2) ?_ ?_ ha hb q1 q2 q3 hit3 h1 h2 h3 ?_ ?_ hz2 fun s' y3 hB3 => ?_
      · exact List.getElem?_set_self (List.getElem?_eq_some_iff.mp hi).1
      · show upd st.loc tok _ tn = _
        unfold upd; rw [if_neg (Ne.symm hne)]; exact htl
      · obtain ⟨o, ho, _⟩ := hit3
        exact Heap.lt_size ho
      · have := aput_len (kvs := T) (x := x) (v := .bool true)
        omega
      · refine kk _ ((((y1.weaken one).trans (y2.weaken sub)).trans z1.nil).trans y3) ?_
        have e1 : mT T (x :: rest) = mT (aput T x (.bool true)) rest := rfl
        have e2 : lastLoc st.loc tok (x :: rest) = lastLoc (upd st.loc tok (.str x)) tok rest := rfl
        rw [e1, e2]
        have e3 : (st.H.set i (.dict (aput T x (.bool true)))).set i (.dict (mT (aput T x (.bool true)) rest)) = st.H.set i (.dict (mT (aput T x (.bool true)) rest)) := List.set_set ..
        rw [← e3]; exact hB3
    by_cases hab : a = b
    · subst hab
      refine setItem_have (strKind_is _ _ _ _) hD2 (by rw [hks]; exact List.mem_of_getElem? hkx) (by rw [hlen, sizeLine_eq]; exact Nat.le_trans (by assumption) (by decide)) fun h'' hD3 hsa => tail h'' _ hsa ⟨_, hD3.dictOf, (hKR rfl).put rfl⟩ ⟨_, hD3, ?_, fun _ => (hKR rfl).put rfl⟩
      rw [stored_keys (by rw [hks]; exact List.mem_of_getElem? hkx), hks]
    · obtain ⟨a', kus0, e, ha', hd0, hk0⟩ := hB2.sim.dict (u := .ref a) ⟨a, ha, rfl⟩ hi
      cases e
      refine wpAny_setItem_pairs (strKind_is _ _ _ _) hd0 (fun h'' hd' hsa => tail h'' _ hsa ⟨_, hd', hk0.put rfl⟩ ⟨kus, hD2.extBut hsa.extBut (Ne.symm hab), hks, fun e => absurd e hab⟩) (by rw [hk0.length, sizeLine_eq]; exact om3 (by assumption) (by first | exact Nat.le_refl _ | decide))

theorem Ex.merge {tn sn tok : Str} {p1 p2 p3 p4 p5 p7 fpos : Pos} {kd i j : Nat} {T S : List (Str × AVal)} (G : Glo K b₀) (htn : cx.sc.names.lookup tn = some .local) (hsn : cx.sc.names.lookup sn = some .local) (htk : cx.sc.names.lookup tok = some .local) (hc : tok ∉ cx.cn) (hne : tok ≠ tn)
    (hdt : (tn == ("__debug__" : Str)) = false) (hds : (sn == ("__debug__" : Str)) = false) (hdk : (tok == ("__debug__" : Str)) = false)
    (hi : st.H[i]? = some (.dict T)) (hj : st.H[j]? = some (.dict S)) (htl : st.loc tn = some (.ref i)) (hsl : st.loc sn = some (.ref j)) (hz : T.length + S.length ≤ 1000) :
    Ex w b₀ n cx (.For (.Name tok p1) (.Name sn p2) [.Assign [.Subscript (.Name tn p3) (.Name tok p4) p5] (.Constant (.bool true) kd p7) pos] [] fpos) st .next ⟨st.H.set i (.dict (mT T (S.map (·.1)))), lastLoc st.loc tok (S.map (·.1))⟩ := by
  intro A env E s ρ Q hR hE hB k
  refine wpAny_For (Ev.loc (pos := p2) hsn hsl hds A env E s ρ _ hR hE hB fun s1 ρ1 u1 y1 hB1 hv1 => ?_) (fun _ => rfl)
  obtain ⟨b, kus, rfl, hb, hd, hkr⟩ := hB1.sim.dict hv1 hj
  obtain ⟨a, ha, _⟩ := hB1.sim.objs i _ hi
  obtain ⟨ep, hD⟩ := hd.dictAt
  refine wpAny_pyIter_dict (hB1.sim.notMods G.big hb) hD ?_
  obtain ⟨z1, hB2⟩ := push_junk hB1 { cls := .type "dict_keyiterator", data := .fields #[.ref b, .int 0 0, .int kus.length 0, .int ep 0] } s1.toks
  have hks : kus.map (·.1) = S.map (·.1) := hkr.keys.symm
  have hlen : kus.length = (S.map (·.1)).length := by rw [← hks, List.length_map]
  refine merge_loop (R := fun r s' => match r with | .ok f => Q f s' | .error e => cameBackBy (MO w) A env E e s') (a := a) (b := b) (ep := ep) (keys := S.map (·.1)) htn htk hc hne hdt hdk hR hE (S.map (·.1)) 0 _ ρ1 st T kus rfl hB2 hi htl ha (List.mem_of_getElem? hb) (hD.push _) hks (fun e => ?_) ⟨_, Heap.get?_push_size _ rfl, rfl, by rw [hlen]; rfl⟩ (rho_lt hB1) (owns_lt hB1) (base_none hB1) (Heap.lt_size (Heap.get?_push_size _ rfl)) (by simpa using hz) (by simp; exact om4 (by assumption) (by first | exact Nat.le_refl _ | decide)) fun s' y hB' => ?_
  · subst e
    have hij : i = j := by
      have h1 := (List.getElem?_inj (List.getElem?_eq_some_iff.mp ha).1 hB1.sim.nodup).mp (ha.trans hb.symm)
      exact h1
    subst hij
    rw [hi] at hj; cases hj
    exact hkr
  · exact k _ _ _ (Stp.drop (y1.trans z1.nil) y fun c hc => by
      rcases List.mem_cons.mp hc with rfl | q
      · exact .inr y1.size
      · exact .inl q) hB' rfl
end

section
variable {w : World} {b₀ : Heap} {n : Nat} {cx cx' : Cx} {st st1 st2 st3 : ASt} {v v1 v2 v3 : AVal} {pos apos : Pos} {x : Str} {K : Frag} {H : List AObj} {f : AFlow}

def XS (w : World) (b₀ : Heap) (n : Nat) (cx : Cx) (ts : List Stmt) (st : ASt) (Post : AFlow → ASt → Prop) : Prop := ∃ f st', Exs w b₀ n cx ts st f st' ∧ Post f st'
def XE (w : World) (b₀ : Heap) (n : Nat) (cx : Cx) (t : Stmt) (st : ASt) (Post : AFlow → ASt → Prop) : Prop := ∃ f st', Ex w b₀ n cx t st f st' ∧ Post f st' ∧ f ≠ .cont
def XV (w : World) (b₀ : Heap) (n : Nat) (cx : Cx) (e : Expr) (st : ASt) (Post : AVal → ASt → Prop) : Prop := ∃ v st', Ev w b₀ n cx e st v st' ∧ Post v st'
inductive XC (w : World) (b₀ : Heap) (n : Nat) (f : AVal) (as : List AVal) (H : List AObj) (Post : AVal → List AObj → Prop) : Prop
  | mk : ∀ v H', Cal w b₀ n f as H v H' → Post v H' → XC w b₀ n f as H Post
inductive Fix (v : AVal) (H : List AObj) (r : AVal) (H' : List AObj) : Prop
  | mk : r = v → H' = H → Fix v H r H'
def After (w : World) (b₀ : Heap) (n : Nat) (cx : Cx) (ts : List Stmt) (Post : AFlow → ASt → Prop) : AFlow → ASt → Prop
  | .next, st => XS w b₀ n cx ts st Post
  | f, st => Post f st

theorem XS.nil {Post : AFlow → ASt → Prop} (h : Post .next st) : XS w b₀ n cx [] st Post := ⟨_, _, Exs.nil, h⟩
theorem XS.cons {t : Stmt} {ts : List Stmt} {Post : AFlow → ASt → Prop} (h : XE w b₀ n cx t st (After w b₀ n cx ts Post)) : XS w b₀ n cx (t :: ts) st Post := by
  obtain ⟨f, st1, h1, h2, h3⟩ := h
  cases f with
  | next => obtain ⟨f2, st2, h4, h5⟩ := h2; exact ⟨f2, st2, Exs.cons h1 h4, h5⟩
  | brk => exact ⟨_, _, Exs.brk h1, h2⟩
  | cont => exact absurd rfl h3
  | ret v => exact ⟨_, _, Exs.ret h1, h2⟩
theorem XE.next {t : Stmt} {Post : AFlow → ASt → Prop} (h : Ex w b₀ n cx t st .next st1) (hp : Post .next st1) : XE w b₀ n cx t st Post := ⟨_, _, h, hp, by simp⟩
theorem XS.next {t : Stmt} {ts : List Stmt} {Post : AFlow → ASt → Prop} (h : Ex w b₀ n cx t st .next st1) (hp : XS w b₀ n cx ts st1 Post) : XS w b₀ n cx (t :: ts) st Post := XS.cons (XE.next h hp)
theorem XS.ret {e : Expr} {ts : List Stmt} {Post : AFlow → ASt → Prop} (h : Ev w b₀ n cx e st v st1) (hp : Post (.ret v) st1) : XS w b₀ n cx (.Return (some e) pos :: ts) st Post := XS.cons ⟨_, _, Ex.ret h, hp, by simp⟩
theorem XS.retV {e : Expr} {ts : List Stmt} {Post : AFlow → ASt → Prop} (h : XV w b₀ n cx e st fun v st' => Post (.ret v) st') : XS w b₀ n cx (.Return (some e) pos :: ts) st Post := by
  obtain ⟨v, st', h1, h2⟩ := h; exact XS.ret h1 h2
theorem XS.brk {ts : List Stmt} {Post : AFlow → ASt → Prop} (hp : Post .brk st) : XS w b₀ n cx (.Break pos :: ts) st Post := XS.cons ⟨_, _, Ex.brk, hp, by simp⟩
theorem XS.mono {ts : List Stmt} {Post Post' : AFlow → ASt → Prop} (h : XS w b₀ n cx ts st Post) (hp : ∀ f st', Post f st' → Post' f st') : XS w b₀ n cx ts st Post' := by
  obtain ⟨f, st1, h1, h2⟩ := h; exact ⟨f, st1, h1, hp _ _ h2⟩
def NC (Post : AFlow → ASt → Prop) : AFlow → ASt → Prop := fun f st => Post f st ∧ f ≠ .cont
theorem XE.ifT {t : Expr} {b o : List Stmt} {Post : AFlow → ASt → Prop} (ht : Tr w b₀ n cx t st true st1) (hb : XS w b₀ n cx b st1 (NC Post)) : XE w b₀ n cx (.If t b o pos) st Post := by
  obtain ⟨f, st2, h1, h2, h3⟩ := hb; exact ⟨f, st2, Ex.if_t ht h1, h2, h3⟩
theorem XE.ifF {t : Expr} {b o : List Stmt} {Post : AFlow → ASt → Prop} (ht : Tr w b₀ n cx t st false st1) (hb : XS w b₀ n cx o st1 (NC Post)) : XE w b₀ n cx (.If t b o pos) st Post := by
  obtain ⟨f, st2, h1, h2, h3⟩ := hb; exact ⟨f, st2, Ex.if_f ht h1, h2, h3⟩
/-- an if with no else whose test is false -/
theorem XS.skip {t : Expr} {b ts : List Stmt} {Post : AFlow → ASt → Prop} (ht : Tr w b₀ n cx t st false st1) (hp : XS w b₀ n cx ts st1 Post) : XS w b₀ n cx (.If t b [] pos :: ts) st Post :=
  XS.cons (XE.ifF ht (XS.nil ⟨hp, by simp⟩))
/-- an if whose body returns -/
theorem XS.ifT {t : Expr} {b o ts : List Stmt} {Post : AFlow → ASt → Prop} (ht : Tr w b₀ n cx t st true st1) (hb : XS w b₀ n cx b st1 (NC (After w b₀ n cx ts Post))) : XS w b₀ n cx (.If t b o pos :: ts) st Post := XS.cons (XE.ifT ht hb)
theorem XS.ifF {t : Expr} {b o ts : List Stmt} {Post : AFlow → ASt → Prop} (ht : Tr w b₀ n cx t st false st1) (hb : XS w b₀ n cx o st1 (NC (After w b₀ n cx ts Post))) : XS w b₀ n cx (.If t b o pos :: ts) st Post := XS.cons (XE.ifF ht hb)
theorem XS.assign {e : Expr} {ts : List Stmt} {p : Pos} {Post : AFlow → ASt → Prop} (h : Ev w b₀ n cx e st v st1) (hk : cx.sc.names.lookup x = some .local) (hc : x ∉ cx.cn) (hp : XS w b₀ n cx ts { st1 with loc := upd st1.loc x v } Post) (hs : ∀ env, swapsWith e (some (.Name x p)) pos.line env = pure false := by intro _; rfl) :
    XS w b₀ n cx (.Assign [.Name x p] e pos :: ts) st Post := XS.next (Ex.assign h hk hc hs) hp
theorem XS.expr {e : Expr} {ts : List Stmt} {Post : AFlow → ASt → Prop} (h : Ev w b₀ n cx e st v st1) (hp : XS w b₀ n cx ts st1 Post) (hs : ∀ env, swapsWith e none pos.line env = pure false := by intro _; rfl) :
    XS w b₀ n cx (.Expr e pos :: ts) st Post := XS.next (Ex.expr h hs) hp

def XL (w : World) (b₀ : Heap) (n : Nat) (cx : Cx) (B : List AObj → Prop) (tgt : Expr) (body : List Stmt) (vs : List AVal) (st : ASt) (Post : AFlow → ASt → Prop) : Prop := ∃ f st', Loop w b₀ n cx B tgt body vs st f st' ∧ Post f st' ∧ f ≠ .cont
def Turn (again : ASt → Prop) (Post : AFlow → ASt → Prop) : AFlow → ASt → Prop
  | .next, st => again st
  | .brk, st => Post .next st
  | .ret r, st => Post (.ret r) st
  | .cont, _ => False
theorem XL.nil {B : List AObj → Prop} {tgt : Expr} {body : List Stmt} {Post : AFlow → ASt → Prop} (hB : B st.H) (h : Post .next st) : XL w b₀ n cx B tgt body [] st Post := ⟨_, _, Loop.nil hB, h, by simp⟩
theorem XL.cons {B : List AObj → Prop} {tgt : Expr} {body : List Stmt} {vs : List AVal} {Post : AFlow → ASt → Prop} (hB : B st.H) (hA : As w b₀ n cx tgt v st st1) (h : XS w b₀ n cx body st1 (Turn (fun st' => XL w b₀ n cx B tgt body vs st' Post) Post)) :
    XL w b₀ n cx B tgt body (v :: vs) st Post := by
  obtain ⟨f, st2, h1, h2⟩ := h
  cases f with
  | next => obtain ⟨f2, st3, h4, h5, h6⟩ := h2; exact ⟨f2, st3, Loop.next hB hA h1 h4, h5, h6⟩
  | brk => exact ⟨_, _, Loop.brk hB hA h1, h2, by simp⟩
  | cont => exact h2.elim
  | ret r => exact ⟨_, _, Loop.ret hB hA h1, h2, by simp⟩
theorem XL.run {B : List AObj → Prop} {tgt : Expr} {body : List Stmt} {Post : AFlow → ASt → Prop} (Inv : List AVal → ASt → Prop) (hB : ∀ vs st, Inv vs st → B st.H) (hnil : ∀ st, Inv [] st → Post .next st)
    (hcons : ∀ v vs st, Inv (v :: vs) st → ∃ st1, As w b₀ n cx tgt v st st1 ∧ XS w b₀ n cx body st1 (Turn (Inv vs) Post)) : ∀ (vs : List AVal) (st : ASt), Inv vs st → XL w b₀ n cx B tgt body vs st Post
  | [], st, h => XL.nil (hB _ _ h) (hnil st h)
  | v :: vs, st, h => by
    obtain ⟨st1, h1, h2⟩ := hcons v vs st h
    refine XL.cons (hB _ _ h) h1 (h2.mono fun f st' h3 => ?_)
    cases f with
    | next => exact XL.run Inv hB hnil hcons vs st' h3
    | brk => exact h3
    | cont => exact h3
    | ret r => exact h3
theorem XS.for_ {P : Prot w b₀} {tgt iter : Expr} {body ts : List Stmt} {Post : AFlow → ASt → Prop} (hs : Src w b₀ n cx iter st P st1) (D : XL w b₀ n cx P.B tgt body P.items st1 (After w b₀ n cx ts Post)) (hf : ∀ env x, foldedSetIterable iter env x = pure x := by intro _ _; rfl) :
    XS w b₀ n cx (.For tgt iter body [] pos :: ts) st Post := by
  obtain ⟨f, st2, h1, h2, h3⟩ := D
  exact XS.cons ⟨f, st2, Ex.for_ hs h1 hf, h2, h3⟩
theorem XS.forL {tgt iter : Expr} {body ts : List Stmt} {Post : AFlow → ASt → Prop} {i : Nat} {vs : List AVal} (h : Ev w b₀ n cx iter st (.ref i) st1) (hl : st1.H[i]? = some (.list vs)) (D : XL w b₀ n cx (fun H => H[i]? = some (.list vs)) tgt body vs st1 (After w b₀ n cx ts Post)) (hf : ∀ env x, foldedSetIterable iter env x = pure x := by intro _ _; rfl) :
    XS w b₀ n cx (.For tgt iter body [] pos :: ts) st Post := XS.for_ (Src.list h hl) D hf

theorem XS.while_ {test : Expr} {body ts : List Stmt} {Post : AFlow → ASt → Prop} (Inv : Nat → ASt → Prop)
    (h : ∀ m st, Inv m st → (∃ st1, Tr w b₀ n cx test st false st1 ∧ XS w b₀ n cx ts st1 Post) ∨ (∃ st1, Tr w b₀ n cx test st true st1 ∧ XS w b₀ n cx body st1 fun f st' => match f with | .next => ∃ m', m' < m ∧ Inv m' st' | .ret r => Post (.ret r) st' | _ => False)) (m : Nat) (h0 : Inv m st) :
    XS w b₀ n cx (.While test body [] pos :: ts) st Post := by
  have key : ∀ m st, Inv m st → ∃ f st', WLoop w b₀ n cx test body st f st' ∧ After w b₀ n cx ts Post f st' ∧ f ≠ .cont := by
    intro m
    induction m using Nat.strongRecOn with
    | ind m ih =>
      intro st h0
      rcases h m st h0 with ⟨st1, h1, h2⟩ | ⟨st1, h1, f, st2, h2, h3⟩
      · exact ⟨_, _, WLoop.stop h1, h2, by simp⟩
      · cases f with
        | next =>
          obtain ⟨m', hm, h4⟩ := h3
          obtain ⟨f3, st3, h5, h6, h7⟩ := ih m' hm st2 h4
          exact ⟨f3, st3, WLoop.go h1 h2 h5, h6, h7⟩
        | brk => exact h3.elim
        | cont => exact h3.elim
        | ret r => exact ⟨_, _, WLoop.ret h1 h2, h3, by simp⟩
  obtain ⟨f, st2, h1, h2, h3⟩ := key m st h0
  exact XS.cons ⟨f, st2, Ex.while_ h1, h2, h3⟩

theorem XV.of {e : Expr} {Post : AVal → ASt → Prop} (h : Ev w b₀ n cx e st v st1) (hp : Post v st1) : XV w b₀ n cx e st Post := ⟨_, _, h, hp⟩

theorem XC.mono {m : Nat} {f : AVal} {as : List AVal} {Post Post' : AVal → List AObj → Prop} (h : XC w b₀ n f as H Post) (hn : n ≤ m) (hp : ∀ v H', Post v H' → Post' v H') : XC w b₀ m f as H Post' := by
  obtain ⟨v, H', h1, h2⟩ := h; exact ⟨v, H', h1.mono hn, hp _ _ h2⟩

def Fin (Post : AVal → List AObj → Prop) : AFlow → ASt → Prop
  | .ret r, st => Post r st.H
  | .next, st => Post .none st.H
  | _, _ => False

/-- a call of a def without cells -/
theorem XCod.def {ps : List Str} {as : List AVal} {name qual : Str} {params : Arguments} {body : List Stmt} {scope : Scope} {dV kV doc pm cdv ct oc : Value} {an od : Option Addr} {osl : Array (Option Value)} {fa : Addr} {Post : AVal → List AObj → Prop} (G : Glo K b₀)
    (ho : K.lookup fa = some ⟨oc, od, .func (fnOf name qual params body scope dV kV doc pm an cdv ct), osl⟩) (hcd : codeIn K cdv qual = true)
    (_hp : ps = params.args.map (·.arg)) (hl : as.length = ps.length)
    (hbind : ∀ us : List Value, us.length = ps.length → bindArgs (fnOf name qual params body scope dV kV doc pm an cdv ct) ⟨us, []⟩ = pure (ps.zip us))
    (hcell : ∀ x ∈ scope.names, x.2 ≠ .cell) (hloc : ∀ x ∈ ps, scope.names.lookup x = some .local) (hnd : ps.Nodup)
    (hco : scope.isCoroutine = false) (hgen : scope.isGenerator = false) (hk : scope.kind = .function)
    (hx : XS w b₀ n ⟨scope, []⟩ body ⟨H, fun x => (ps.zip as).lookup x⟩ (Fin Post)) :
    ∃ v H', Cod w b₀ (n + 1) (.ref fa) as H v H' ∧ Post v H' := by
  obtain ⟨f, st', h1, h2⟩ := hx
  cases f with
  | next => exact ⟨.none, st'.H, Cod.def G ho hcd _hp hl hbind hcell hloc hnd ⟨_, h1⟩ rfl hco hgen hk, h2⟩
  | brk => exact h2.elim
  | cont => exact h2.elim
  | ret r => exact ⟨r, st'.H, Cod.def G ho hcd _hp hl hbind hcell hloc hnd ⟨_, h1⟩ rfl hco hgen hk, h2⟩
theorem XC.def {ps : List Str} {as : List AVal} {name qual : Str} {params : Arguments} {body : List Stmt} {scope : Scope} {dV kV doc pm cdv ct oc : Value} {an od : Option Addr} {osl : Array (Option Value)} {fa : Addr} {Post : AVal → List AObj → Prop} (G : Glo K b₀)
    (ho : K.lookup fa = some ⟨oc, od, .func (fnOf name qual params body scope dV kV doc pm an cdv ct), osl⟩) (hcd : codeIn K cdv qual = true)
    (_hp : ps = params.args.map (·.arg)) (hl : as.length = ps.length)
    (hbind : ∀ us : List Value, us.length = ps.length → bindArgs (fnOf name qual params body scope dV kV doc pm an cdv ct) ⟨us, []⟩ = pure (ps.zip us))
    (hcell : ∀ x ∈ scope.names, x.2 ≠ .cell) (hloc : ∀ x ∈ ps, scope.names.lookup x = some .local) (hnd : ps.Nodup)
    (hco : scope.isCoroutine = false) (hgen : scope.isGenerator = false) (hk : scope.kind = .function)
    (hx : XS w b₀ n ⟨scope, []⟩ body ⟨H, fun x => (ps.zip as).lookup x⟩ (Fin Post)) :
    XC w b₀ (n + 1) (.val (.ref fa)) as H Post := by
  obtain ⟨v, H', h1, h2⟩ := XCod.def G ho hcd _hp hl hbind hcell hloc hnd hco hgen hk hx
  exact ⟨v, H', h1.cal, h2⟩
theorem XC.defC {ps : List Str} {as : List AVal} {name qual : Str} {params : Arguments} {body : List Stmt} {scope : Scope} {dV kV doc pm cdv ct oc : Value} {an od : Option Addr} {osl : Array (Option Value)} {fa : Addr} {Post : AVal → List AObj → Prop} (G : Glo K b₀)
    (ho : K.lookup fa = some ⟨oc, od, .func (fnOf name qual params body scope dV kV doc pm an cdv ct), osl⟩) (hcd : codeIn K cdv qual = true)
    (_hp : ps = params.args.map (·.arg)) (hl : as.length = ps.length)
    (hbind : ∀ us : List Value, us.length = ps.length → bindArgs (fnOf name qual params body scope dV kV doc pm an cdv ct) ⟨us, []⟩ = pure (ps.zip us))
    (hloc : ∀ x ∈ ps, scope.names.lookup x = some .local ∨ scope.names.lookup x = some .cell) (hnd : ps.Nodup) (hcl : ∀ x ∈ cellNames scope, scope.names.lookup x = some .cell) (hcnd : (cellNames scope).Nodup)
    (hco : scope.isCoroutine = false) (hgen : scope.isGenerator = false) (hk : scope.kind = .function)
    (hx : XS w b₀ n ⟨scope, cellNames scope⟩ body ⟨H, fun x => (ps.zip as).lookup x⟩ (Fin Post)) :
    XC w b₀ (n + 1) (.val (.ref fa)) as H Post := by
  obtain ⟨f, st', h1, h2⟩ := hx
  cases f with
  | next => exact ⟨.none, st'.H, Cal.defC G ho hcd _hp hl hbind hloc hnd hcl hcnd ⟨_, h1⟩ rfl hco hgen hk, h2⟩
  | brk => exact h2.elim
  | cont => exact h2.elim
  | ret r => exact ⟨r, st'.H, Cal.defC G ho hcd _hp hl hbind hloc hnd hcl hcnd ⟨_, h1⟩ rfl hco hgen hk, h2⟩

/-- a comprehension's items -/
def XR (w : World) (b₀ : Heap) (n : Nat) (cx : Cx) (B : List AObj → Prop) (base : Str → Option AVal) (tgt : Str) (elt : Expr) (ifs : List Expr) (D : Nat) (vs : List AVal) (H : List AObj) (acc : List AVal) (Post : List AObj → List AVal → Prop) : Prop :=
  ∃ H' acc', CRun w b₀ n cx B base tgt elt ifs D vs H acc H' acc' ∧ Post H' acc'
theorem XR.run {B : List AObj → Prop} {base : Str → Option AVal} {tgt : Str} {elt : Expr} {ifs : List Expr} {D : Nat} {Post : List AObj → List AVal → Prop} (Inv : List AVal → List AObj → List AVal → Prop)
    (hB : ∀ vs H acc, Inv vs H acc → B H) (hnil : ∀ H acc, Inv [] H acc → Post H acc)
    (hcons : ∀ v vs H acc, Inv (v :: vs) H acc → (∃ H1 H2 r, Tst w b₀ n cx ifs ⟨H, upd base tgt v⟩ true ⟨H1, upd base tgt v⟩ ∧ Ev w b₀ n cx elt ⟨H1, upd base tgt v⟩ r ⟨H2, upd base tgt v⟩ ∧ H2[D]? = some (.list acc) ∧ Inv vs (H2.set D (.list (acc ++ [r]))) (acc ++ [r])) ∨
      (∃ H1, Tst w b₀ n cx ifs ⟨H, upd base tgt v⟩ false ⟨H1, upd base tgt v⟩ ∧ H1[D]? = some (.list acc) ∧ Inv vs H1 acc)) : ∀ (vs : List AVal) (H : List AObj) (acc : List AVal), Inv vs H acc → XR w b₀ n cx B base tgt elt ifs D vs H acc Post
  | [], H, acc, h => ⟨H, acc, CRun.nil (hB _ _ _ h), hnil _ _ h⟩
  | v :: vs, H, acc, h => by
    rcases hcons v vs H acc h with ⟨H1, H2, r, h1, h2, h3, h4⟩ | ⟨H1, h1, h2, h3⟩
    · obtain ⟨H', acc', h5, h6⟩ := XR.run Inv hB hnil hcons vs _ _ h4
      exact ⟨H', acc', CRun.take (hB _ _ _ h) h1 h2 h3 h5, h6⟩
    · obtain ⟨H', acc', h5, h6⟩ := XR.run Inv hB hnil hcons vs _ _ h3
      exact ⟨H', acc', CRun.skip (hB _ _ _ h) h1 h2 h5, h6⟩

theorem protL_again {i : Nat} {vs : List AVal} : ∀ (A : Around) (E : Value → Shared → Prop) (s : Shared) (ρ : List Addr) (it : Addr) (Q : Value → Shared → Prop), (protL w b₀ i vs).St 0 ρ s.heap it → Q (.ref it) s → wpAny (MO w) A (pyIter (.ref it)) Q E s := by
  rintro A E s ρ it Q ⟨a, ha, hit⟩ h
  exact wpAny_pyIter_listiter hit h
theorem protN_again {m : Nat} : ∀ (A : Around) (E : Value → Shared → Prop) (s : Shared) (ρ : List Addr) (it : Addr) (Q : Value → Shared → Prop), (protN w b₀ m).St 0 ρ s.heap it → Q (.ref it) s → wpAny (MO w) A (pyIter (.ref it)) Q E s := by
  rintro A E s ρ it Q ⟨hk, hit⟩ h
  exact wpAny_pyIter_rangeiter hit h

theorem XV.compL {tgt : Str} {elt iter : Expr} {ifs : List Expr} {scope : Scope} {p : Pos} {i : Nat} {vs : List AVal} {Post : AVal → ASt → Prop} (h : Ev w b₀ n cx iter st (.ref i) st1) (hl : st1.H[i]? = some (.list vs))
    (hO : CompOK scope cx tgt) (hlen : vs.length ≤ 1000)
    (hrun : XR w b₀ n (compCx scope cx) (fun H => H[i]? = some (.list vs)) (compBase scope st1.loc) tgt elt ifs st1.H.length vs (st1.H ++ [.list []]) [] fun H' _ => Post (.ref st1.H.length) ⟨H', st1.loc⟩)
    (hf : ∀ env x, foldedSetIterable iter env x = pure x := by intro _ _; rfl) :
    XV w b₀ n cx (.ListComp elt [⟨.Name tgt p, iter, ifs, 0⟩] scope pos) st Post := by
  obtain ⟨H', acc', h1, h2⟩ := hrun
  exact ⟨_, _, Ev.comp (Src.list h hl) protL_again hO h1 hlen hf, h2⟩
theorem XV.compN {tgt : Str} {elt iter : Expr} {ifs : List Expr} {scope : Scope} {p : Pos} {m : Nat} {Post : AVal → ASt → Prop} (h : Src w b₀ n cx iter st (protN w b₀ m) st1)
    (hO : CompOK scope cx tgt) (hlen : m ≤ 1000)
    (hrun : XR w b₀ n (compCx scope cx) (fun _ => True) (compBase scope st1.loc) tgt elt ifs st1.H.length ((List.range m).map fun i : Nat => AVal.int (i : Int)) (st1.H ++ [.list []]) [] fun H' _ => Post (.ref st1.H.length) ⟨H', st1.loc⟩)
    (hf : ∀ env x, foldedSetIterable iter env x = pure x := by intro _ _; rfl) :
    XV w b₀ n cx (.ListComp elt [⟨.Name tgt p, iter, ifs, 0⟩] scope pos) st Post := by
  obtain ⟨H', acc', h1, h2⟩ := hrun
  exact ⟨_, _, Ev.comp h protN_again hO h1 (by show (List.map _ _).length ≤ _; simpa using hlen) hf, h2⟩
theorem XS.assignComp {tgt y : Str} {elt iter : Expr} {ifs : List Expr} {scope : Scope} {p p2 spos : Pos} {i : Nat} {vs : List AVal} {ts : List Stmt} {Post : AFlow → ASt → Prop} (h : Ev w b₀ n cx iter st (.ref i) st1) (hl : st1.H[i]? = some (.list vs))
    (hO : CompOK scope cx tgt) (hlen : vs.length ≤ 1000)
    (hk : cx.sc.names.lookup y = some .local) (hc : y ∉ cx.cn) (hsw : ∀ env, EnvOK cx env → swapsWith (.ListComp elt [⟨.Name tgt p, iter, ifs, 0⟩] scope pos) (some (.Name y p2)) spos.line env = pure true)
    (hrun : XR w b₀ n (compCx scope cx) (fun H => H[i]? = some (.list vs)) (compBase scope st1.loc) tgt elt ifs st1.H.length vs (st1.H ++ [.list []]) [] fun H' _ => XS w b₀ n cx ts ⟨H', upd st1.loc y (.ref st1.H.length)⟩ Post)
    (hf : ∀ env x, foldedSetIterable iter env x = pure x := by intro _ _; rfl) :
    XS w b₀ n cx (.Assign [.Name y p2] (.ListComp elt [⟨.Name tgt p, iter, ifs, 0⟩] scope pos) spos :: ts) st Post := by
  obtain ⟨H', acc', h1, h2⟩ := hrun
  exact XS.next (Ex.assignComp (Src.list h hl) protL_again hO h1 hlen hk hc hsw hf) h2
end

section
variable {w : World} {b₀ : Heap} {n : Nat} {cx cx' : Cx} {st st1 st2 st3 : ASt} {v v1 v2 v3 : AVal} {pos apos : Pos} {x : Str} {K : Frag} {H : List AObj} {f : AFlow}
theorem Ev.cmp0 {l r : Expr} {op : CmpOp} (hl : Ev w b₀ n cx l st v1 st1) (hr : Ev w b₀ n cx r st1 v2 st2) (ho : Op2 w b₀ n (compareOp op) VR v1 v2 st2.H v st2.H)
    (hm : behindInMarks op r = false := by with_unfolding_all rfl) : Ev w b₀ n cx (.Compare l [op] [r] pos) st v st2 := Ev.cmp hl hr ho hm
theorem Tr.cmp0 {l r : Expr} {op : CmpOp} {c : Bool} (hl : Ev w b₀ n cx l st v1 st1) (hr : Ev w b₀ n cx r st1 v2 st2) (ho : Op2 w b₀ n (compareOp op) VR v1 v2 st2.H (.bool c) st2.H)
    (hm : behindInMarks op r = false := by with_unfolding_all rfl) : Tr w b₀ n cx (.Compare l [op] [r] pos) st c st2 := Tr.cmp hl hr ho hm
theorem Ev.bin0 {l r : Expr} {op : Operator} (hl : Ev w b₀ n cx l st v1 st1) (hr : Ev w b₀ n cx r st1 v2 st2) (ho : Op2 w b₀ n (binaryOp op) VR v1 v2 st2.H v st2.H) :
    Ev w b₀ n cx (.BinOp l op r pos) st v st2 := Ev.bin hl hr ho
theorem Ev.sub0 {value slice : Expr} {i : Nat} {o : AObj} (ho : Ev w b₀ n cx value st (.ref i) st1) (hi : Ev w b₀ n cx slice st1 v2 st2) (h2 : st2.H[i]? = some o) (hk : o.isSeq = true)
    (hg : Op2 w b₀ n getItem VR (.ref i) v2 st2.H v st2.H) (hs : ∀ o i, subscripted slice false o i = operate [o, i] (getItem o i) := by intros; rfl) :
    Ev w b₀ n cx (.Subscript value slice pos) st v st2 := Ev.sub ho hi h2 hk hg hs
theorem Ev.call0 {func : Expr} {args : List Expr} {fv : Value} {vs : List AVal} (hf : Ev w b₀ n cx func st (.val fv) st1) (hk : CallForm fv b₀ w) (ha : EvL w b₀ n cx args st1 vs st2)
    (hc : Cal w b₀ n (.val fv) vs st2.H v st2.H) (hp : argsPlain args)
    (he : ∀ env, eval (.Call func args [] pos) env = (do callWith pos (← eval func env) [] (backTo pos (starEach args env)) (backToKw pos (keywordEach [] env))) := by intro _; rfl) :
    Ev w b₀ n cx (.Call func args [] pos) st v st2 := Ev.call hf hk ha hc hp he
theorem Ev.callH {func : Expr} {args : List Expr} {fv : Value} {vs : List AVal} {H H' : List AObj} {l : Str → Option AVal} (hf : Ev w b₀ n cx func st (.val fv) st1) (hk : CallForm fv b₀ w) (ha : EvL w b₀ n cx args st1 vs ⟨H, l⟩)
    (hc : Cal w b₀ n (.val fv) vs H v H') (hp : argsPlain args)
    (he : ∀ env, eval (.Call func args [] pos) env = (do callWith pos (← eval func env) [] (backTo pos (starEach args env)) (backToKw pos (keywordEach [] env))) := by intro _; rfl) :
    Ev w b₀ n cx (.Call func args [] pos) st v ⟨H', l⟩ := Ev.call hf hk ha hc hp he
theorem op_inD' {i : Nat} {kvs : List (Str × AVal)} {x : Str} {b : Bool} (G : Glo K b₀) (ho : H[i]? = some (.dict kvs)) (hb : (aget kvs x).isSome = b) : Op2 w b₀ n (compareOp .In) VR (.str x) (.ref i) H (.bool b) H := hb ▸ op_inD G ho
theorem op_ninD' {i : Nat} {kvs : List (Str × AVal)} {x : Str} {b : Bool} (G : Glo K b₀) (ho : H[i]? = some (.dict kvs)) (hb : (!(aget kvs x).isSome) = b) : Op2 w b₀ n (compareOp .NotIn) VR (.str x) (.ref i) H (.bool b) H := hb ▸ op_ninD G ho
theorem op_ninD_t {i : Nat} {kvs : List (Str × AVal)} {x : Str} (G : Glo K b₀) (ho : H[i]? = some (.dict kvs)) (hb : aget kvs x = none) : Op2 w b₀ n (compareOp .NotIn) VR (.str x) (.ref i) H (.bool true) H := op_ninD' G ho (by rw [hb]; rfl)
theorem op_ninD_f {i : Nat} {kvs : List (Str × AVal)} {x : Str} {u : AVal} (G : Glo K b₀) (ho : H[i]? = some (.dict kvs)) (hb : aget kvs x = some u) : Op2 w b₀ n (compareOp .NotIn) VR (.str x) (.ref i) H (.bool false) H := op_ninD' G ho (by rw [hb]; rfl)
theorem op_inD_f {i : Nat} {kvs : List (Str × AVal)} {x : Str} (G : Glo K b₀) (ho : H[i]? = some (.dict kvs)) (hb : aget kvs x = none) : Op2 w b₀ n (compareOp .In) VR (.str x) (.ref i) H (.bool false) H := op_inD' G ho (by rw [hb]; rfl)
theorem op_inD_t {i : Nat} {kvs : List (Str × AVal)} {x : Str} {u : AVal} (G : Glo K b₀) (ho : H[i]? = some (.dict kvs)) (hb : aget kvs x = some u) : Op2 w b₀ n (compareOp .In) VR (.str x) (.ref i) H (.bool true) H := op_inD' G ho (by rw [hb]; rfl)
theorem op_eqs' {a b : Str} {c : Bool} (h : decide (a = b) = c) : Op2 w b₀ n (compareOp .Eq) VR (.str a) (.str b) H (.bool c) H := h ▸ op_eqs

theorem hm_eq {r : Expr} : behindInMarks .Eq r = false := by cases r <;> simp [behindInMarks]
theorem hm_ne {r : Expr} : behindInMarks .NotEq r = false := by cases r <;> simp [behindInMarks]
theorem hm_gt {r : Expr} : behindInMarks .Gt r = false := by cases r <;> simp [behindInMarks]
theorem hm_lt {r : Expr} : behindInMarks .Lt r = false := by cases r <;> simp [behindInMarks]
theorem hm_name {op : CmpOp} {y : Str} {p : Pos} : behindInMarks op (.Name y p) = false := rfl
theorem hm_attr {op : CmpOp} {o : Expr} {y : Str} {p : Pos} : behindInMarks op (.Attribute o y p) = false := rfl
theorem hm_list {op : CmpOp} {es : List Expr} {p : Pos} : behindInMarks op (.List es p) = false := rfl
theorem hs_c {c : Const} {kd : Nat} {p : Pos} (o i : Value) : subscripted (.Constant c kd p) false o i = operate [o, i] (getItem o i) := by intros; rfl
theorem hs_n {y : Str} {p : Pos} (o i : Value) : subscripted (.Name y p) false o i = operate [o, i] (getItem o i) := by intros; rfl
theorem hs_s {x y : Expr} {p : Pos} (o i : Value) : subscripted (.Subscript x y p) false o i = operate [o, i] (getItem o i) := by intros; rfl
theorem hs_b {x y : Expr} {op : Operator} {p : Pos} (o i : Value) : subscripted (.BinOp x op y p) false o i = operate [o, i] (getItem o i) := by intros; rfl
theorem hs_a {x : Expr} {y : Str} {p : Pos} (o i : Value) : subscripted (.Attribute x y p) false o i = operate [o, i] (getItem o i) := by intros; rfl

theorem Ev.subT {value : Expr} {i j : Nat} {vs : List AVal} {kd : Nat} {p : Pos} (ho : Ev w b₀ n cx value st (.ref i) st1) (h2 : st1.H[i]? = some (.tup vs)) (hj : vs[j]? = some v) (hz : j < 100000) :
    Ev w b₀ n cx (.Subscript value (.Constant (.int (j : Int)) kd p) pos) st v st1 := Ev.sub0 ho Ev.int h2 rfl (op_getT h2 hz hj) hs_c
theorem Ev.sub0T {value : Expr} {i : Nat} {vs : List AVal} {kd : Nat} {p : Pos} (ho : Ev w b₀ n cx value st (.ref i) st1) (h2 : st1.H[i]? = some (.tup (v :: vs))) :
    Ev w b₀ n cx (.Subscript value (.Constant (.int 0) kd p) pos) st v st1 := Ev.subT (j := 0) ho h2 rfl (by decide)
theorem Ev.sub1T {value : Expr} {i : Nat} {vs : List AVal} {kd : Nat} {p : Pos} (ho : Ev w b₀ n cx value st (.ref i) st1) (h2 : st1.H[i]? = some (.tup (v1 :: v :: vs))) :
    Ev w b₀ n cx (.Subscript value (.Constant (.int 1) kd p) pos) st v st1 := Ev.subT (j := 1) ho h2 rfl (by decide)
theorem Ev.subD {value slice : Expr} {i : Nat} {kvs : List (Str × AVal)} (ho : Ev w b₀ n cx value st (.ref i) st1) (hi : Ev w b₀ n cx slice st1 (.str x) st2) (h2 : st2.H[i]? = some (.dict kvs)) (hx : aget kvs x = some v)
    (hs : ∀ o i, subscripted slice false o i = operate [o, i] (getItem o i)) : Ev w b₀ n cx (.Subscript value slice pos) st v st2 := Ev.sub0 ho hi h2 rfl (op_getD h2 hx) hs
theorem Ev.eqS {l : Expr} {a b : Str} {c : Bool} {kd : Nat} {p : Pos} (hl : Ev w b₀ n cx l st (.str a) st1) (h : decide (a = b) = c) : Ev w b₀ n cx (.Compare l [.Eq] [.Constant (.str b) kd p] pos) st (.bool c) st1 := Ev.cmp0 hl Ev.str (op_eqs' h) hm_eq
theorem Tr.eqS {l : Expr} {a b : Str} {c : Bool} {kd : Nat} {p : Pos} (hl : Ev w b₀ n cx l st (.str a) st1) (h : decide (a = b) = c) : Tr w b₀ n cx (.Compare l [.Eq] [.Constant (.str b) kd p] pos) st c st1 := Tr.cmp0 hl Ev.str (op_eqs' h) hm_eq
theorem Tr.not_t {e : Expr} (he : Tr w b₀ n cx e st false st1) : Tr w b₀ n cx (.UnaryOp .Not e pos) st true st1 := Tr.not he
theorem Tr.not_f {e : Expr} (he : Tr w b₀ n cx e st true st1) : Tr w b₀ n cx (.UnaryOp .Not e pos) st false st1 := Tr.not he
theorem XC.get {fv : AVal} {as : List AVal} (h : XC w b₀ n fv as H (Fix v H)) : Cal w b₀ n fv as H v H := by
  obtain ⟨r, H', hc, rfl, rfl⟩ := h; exact hc
end

inductive E where
  | name (x : Str) | text (x : Str) | opt (e : E) | rep (e : E) | seq (es : List E) | alt (es : List E)

mutual
def IsE (H : List AObj) : E → AVal → Prop
  | .name x, v => ∃ i, v = .ref i ∧ H[i]? = some (.tup [.str "name", .str x])
  | .text x, v => ∃ i, v = .ref i ∧ H[i]? = some (.tup [.str "text", .str x])
  | .opt e, v => ∃ i u, v = .ref i ∧ H[i]? = some (.tup [.str "opt", u]) ∧ IsE H e u
  | .rep e, v => ∃ i u, v = .ref i ∧ H[i]? = some (.tup [.str "rep", u]) ∧ IsE H e u
  | .seq es, v => ∃ i j us, v = .ref i ∧ H[i]? = some (.tup [.str "seq", .ref j]) ∧ H[j]? = some (.list us) ∧ IsEs H es us
  | .alt es, v => ∃ i j us, v = .ref i ∧ H[i]? = some (.tup [.str "alt", .ref j]) ∧ H[j]? = some (.list us) ∧ IsEs H es us
def IsEs (H : List AObj) : List E → List AVal → Prop
  | [], [] => True
  | e :: es, v :: vs => IsE H e v ∧ IsEs H es vs
  | _, _ => False
end

mutual
def hgt : E → Nat
  | .name _ => 0
  | .text _ => 0
  | .opt e => hgt e + 1
  | .rep e => hgt e + 1
  | .seq es => hgts es + 1
  | .alt es => hgts es + 1
def hgts : List E → Nat
  | [] => 0
  | e :: es => max (hgt e) (hgts es)
end
theorem hgt_le_hgts {e : E} : ∀ {es : List E}, e ∈ es → hgt e ≤ hgts es
  | e' :: es, h => by
    rw [hgts]
    rcases List.mem_cons.mp h with rfl | h
    · exact Nat.le_max_left _ _
    · exact Nat.le_trans (hgt_le_hgts h) (Nat.le_max_right _ _)

/-- every object but those of W stays -/
structure Kp (W : List Nat) (H H' : List AObj) : Prop where
  keep : ∀ i o, H[i]? = some o → i ∉ W → H'[i]? = some o
  len : H.length ≤ H'.length
theorem Kp.refl {W : List Nat} {H : List AObj} : Kp W H H := ⟨fun _ _ h _ => h, Nat.le_refl _⟩
theorem Kp.trans {W : List Nat} {H H' H'' : List AObj} (a : Kp W H H') (b : Kp W H' H'') : Kp W H H'' := ⟨fun i o h hi => b.keep i o (a.keep i o h hi) hi, Nat.le_trans a.len b.len⟩
theorem Kp.weaken {W W' : List Nat} {H H' : List AObj} (a : Kp W H H') (h : ∀ i ∈ W, i ∈ W') : Kp W' H H' := ⟨fun i o e hi => a.keep i o e fun q => hi (h i q), a.len⟩
theorem Kp.nil {W : List Nat} {H H' : List AObj} (a : Kp [] H H') : Kp W H H' := a.weaken (by simp)
theorem Kp.app {W : List Nat} {H H' : List AObj} (a : Kp W H H') (l : List AObj) : Kp W H (H' ++ l) :=
  ⟨fun i o e hi => by rw [List.getElem?_append_left (List.getElem?_eq_some_iff.mp (a.keep i o e hi)).1]; exact a.keep i o e hi, by rw [List.length_append]; have := a.len; exact Nat.le_trans (by assumption) (Nat.le_add_right _ _)⟩
theorem Kp.set {W : List Nat} {H H' : List AObj} (a : Kp W H H') {j : Nat} {o : AObj} (hj : j ∈ W ∨ H.length ≤ j) : Kp W H (H'.set j o) :=
  ⟨fun i ob e hi => by
    rw [List.getElem?_set_ne]
    · exact a.keep i ob e hi
    · rintro rfl
      rcases hj with q | q
      · exact hi q
      · have := (List.getElem?_eq_some_iff.mp e).1; omega, by rw [List.length_set]; exact a.len⟩
/-- what is fresh may change -/
theorem Kp.drop {W W' : List Nat} {H H' H'' : List AObj} (a : Kp W H H') (b : Kp W' H' H'') (h : ∀ i ∈ W', i ∈ W ∨ H.length ≤ i) : Kp W H H'' :=
  ⟨fun i o e hi => b.keep i o (a.keep i o e hi) fun q => by
    rcases h i q with q | q
    · exact hi q
    · have := (List.getElem?_eq_some_iff.mp e).1; omega, Nat.le_trans a.len b.len⟩
theorem Kp.at {H H' : List AObj} (a : Kp [] H H') {i : Nat} {o : AObj} (h : H[i]? = some o) : H'[i]? = some o := a.keep i o h (by simp)

/-- the indices of W hold nothing of a tree -/
def Wr (W : List Nat) (H : List AObj) : Prop := ∀ i ∈ W, (∀ us, H[i]? ≠ some (.tup us)) ∧ (∀ us, H[i]? ≠ some (.list us))
theorem Wr.nil {H : List AObj} : Wr [] H := fun _ h => by simp at h
theorem Kp.tup {W : List Nat} {H H' : List AObj} (a : Kp W H H') (w : Wr W H) {i : Nat} {us : List AVal} (h : H[i]? = some (.tup us)) : H'[i]? = some (.tup us) := a.keep i _ h fun q => (w i q).1 us h
theorem Kp.lst {W : List Nat} {H H' : List AObj} (a : Kp W H H') (w : Wr W H) {i : Nat} {us : List AVal} (h : H[i]? = some (.list us)) : H'[i]? = some (.list us) := a.keep i _ h fun q => (w i q).2 us h
mutual
theorem IsE.kp {W : List Nat} {H H' : List AObj} (a : Kp W H H') (w : Wr W H) : ∀ (e : E) (v : AVal), IsE H e v → IsE H' e v
  | .name x, v, ⟨i, e, h1⟩ => ⟨i, e, a.tup w h1⟩
  | .text x, v, ⟨i, e, h1⟩ => ⟨i, e, a.tup w h1⟩
  | .opt e, v, ⟨i, u, hv, h1, h2⟩ => ⟨i, u, hv, a.tup w h1, IsE.kp a w e u h2⟩
  | .rep e, v, ⟨i, u, hv, h1, h2⟩ => ⟨i, u, hv, a.tup w h1, IsE.kp a w e u h2⟩
  | .seq es, v, ⟨i, j, us, hv, h1, h2, h3⟩ => ⟨i, j, us, hv, a.tup w h1, a.lst w h2, IsEs.kp a w es us h3⟩
  | .alt es, v, ⟨i, j, us, hv, h1, h2, h3⟩ => ⟨i, j, us, hv, a.tup w h1, a.lst w h2, IsEs.kp a w es us h3⟩
theorem IsEs.kp {W : List Nat} {H H' : List AObj} (a : Kp W H H') (w : Wr W H) : ∀ (es : List E) (vs : List AVal), IsEs H es vs → IsEs H' es vs
  | [], [], _ => trivial
  | e :: es, v :: vs, h => ⟨IsE.kp a w e v h.1, IsEs.kp a w es vs h.2⟩
  | [], _ :: _, h => False.elim h
  | _ :: _, [], h => False.elim h
end
theorem IsEs.ind {H : List AObj} {P : List E → List AVal → Prop} (h0 : P [] []) (h1 : ∀ e es v vs, IsE H e v → IsEs H es vs → P es vs → P (e :: es) (v :: vs)) : ∀ {es : List E} {vs : List AVal}, IsEs H es vs → P es vs := by
  intro es
  induction es with
  | nil => intro vs h; cases vs with | nil => exact h0 | cons _ _ => exact False.elim h
  | cons e es ih => intro vs h; cases vs with | nil => exact False.elim h | cons v vs => exact h1 _ _ _ _ h.1 h.2 (ih h.2)
theorem IsEs.inv_cons {H : List AObj} {v : AVal} {vs : List AVal} {es : List E} (h : IsEs H es (v :: vs)) : ∃ e es', es = e :: es' ∧ IsE H e v ∧ IsEs H es' vs := by
  cases es with | nil => exact False.elim h | cons e es => exact ⟨e, es, rfl, h.1, h.2⟩
theorem IsEs.inv_nil {H : List AObj} {es : List E} (h : IsEs H es []) : es = [] := by
  cases es with | nil => rfl | cons _ _ => exact False.elim h
theorem IsEs.length {H : List AObj} {es : List E} {vs : List AVal} (h : IsEs H es vs) : vs.length = es.length :=
  h.ind (P := fun es vs => vs.length = es.length) rfl fun _ _ _ _ _ _ ih => congrArg (· + 1) ih

/- what may be empty -/
mutual
def mbe (N : Str → Bool) : E → Bool
  | .name x => N x
  | .text _ => false
  | .opt _ => true
  | .rep _ => true
  | .seq es => mbeAll N es
  | .alt es => mbeAny N es
def mbeAll (N : Str → Bool) : List E → Bool
  | [] => true
  | e :: es => mbe N e && mbeAll N es
def mbeAny (N : Str → Bool) : List E → Bool
  | [] => false
  | e :: es => mbe N e || mbeAny N es
end

def Agree (xs : List Str) (l l0 : Str → Option AVal) : Prop := ∀ y, y ∉ xs → l y = l0 y
theorem Agree.get {xs : List Str} {l l0 : Str → Option AVal} {y : Str} {v : AVal} (h : Agree xs l l0) (hy : y ∉ xs) (h0 : l0 y = some v) : l y = some v := (h y hy).trans h0
theorem Agree.refl {xs : List Str} {l : Str → Option AVal} : Agree xs l l := fun _ _ => rfl
theorem Agree.upd {xs : List Str} {l l0 : Str → Option AVal} {x : Str} {v : AVal} (h : Agree xs l l0) (hx : x ∈ xs) : Agree xs (upd l x v) l0 := fun y hy => by
  unfold Mine.upd
  rw [if_neg (by rintro rfl; exact hy hx)]
  exact h y hy
theorem upd_ne {l : Str → Option AVal} {x y : Str} {u v : AVal} (h : x ≠ y) (h2 : l x = some v) : upd l y u x = some v := by unfold upd; rw [if_neg h]; exact h2
theorem upd_eq {l : Str → Option AVal} {x : Str} {u : AVal} : upd l x u x = some u := by unfold upd; rw [if_pos rfl]

/-- tables of rules -/
def IsT (H : List AObj) : List (Str × E) → List (Str × AVal) → Prop
  | [], [] => True
  | r :: rs, p :: ps => r.1 = p.1 ∧ IsE H r.2 p.2 ∧ IsT H rs ps
  | _, _ => False
def eget (rs : List (Str × E)) (x : Str) : Option E := (rs.find? fun r => r.1 = x).map (·.2)
theorem IsT.ind {H : List AObj} {P : List (Str × E) → List (Str × AVal) → Prop} (h0 : P [] []) (h1 : ∀ r rs p ps, r.1 = p.1 → IsE H r.2 p.2 → IsT H rs ps → P rs ps → P (r :: rs) (p :: ps)) : ∀ {rs : List (Str × E)} {ps : List (Str × AVal)}, IsT H rs ps → P rs ps := by
  intro rs
  induction rs with
  | nil => intro ps h; cases ps with | nil => exact h0 | cons _ _ => exact False.elim h
  | cons r rs ih => intro ps h; cases ps with | nil => exact False.elim h | cons p ps => exact h1 _ _ _ _ h.1 h.2.1 h.2.2 (ih h.2.2)
theorem IsT.kp {W : List Nat} {H H' : List AObj} (a : Kp W H H') (w : Wr W H) (rs : List (Str × E)) (ps : List (Str × AVal)) (h : IsT H rs ps) : IsT H' rs ps :=
  h.ind (P := IsT H') trivial fun _ _ _ _ e he _ ih => ⟨e, he.kp a w, ih⟩
theorem IsT.get {H : List AObj} {x : Str} {rs : List (Str × E)} {ps : List (Str × AVal)} (h : IsT H rs ps) : (match eget rs x with | some e => ∃ v, aget ps x = some v ∧ IsE H e v | none => aget ps x = none) := by
  refine h.ind (P := fun rs ps => match eget rs x with | some e => ∃ v, aget ps x = some v ∧ IsE H e v | none => aget ps x = none) rfl fun r rs p ps h1 h2 _ ih => ?_
  simp only [eget, aget, List.find?_cons] at ih ⊢
  by_cases h : r.1 = x
  · have h' : p.1 = x := h1 ▸ h
    simp only [h, h', decide_true, Option.map_some]
    exact ⟨_, rfl, h2⟩
  · have h' : ¬ p.1 = x := h1 ▸ h
    simp only [h, h', decide_false]
    exact ih
theorem IsT.some {H : List AObj} {x : Str} {rs : List (Str × E)} {ps : List (Str × AVal)} {e : E} (h : IsT H rs ps) (he : eget rs x = some e) : ∃ v, aget ps x = some v ∧ IsE H e v := by
  have := h.get (x := x); rw [he] at this; exact this
theorem IsT.none {H : List AObj} {x : Str} {rs : List (Str × E)} {ps : List (Str × AVal)} (h : IsT H rs ps) (he : eget rs x = none) : aget ps x = none := by
  have := h.get (x := x); rw [he] at this; exact this
theorem cons_map {α : Type} {f : α → AVal} {v : AVal} {vs : List AVal} {rem : List α} (h : v :: vs = rem.map f) : ∃ x rem', rem = x :: rem' ∧ v = f x ∧ vs = rem'.map f := by
  cases rem with
  | nil => cases h
  | cons x r => injection h with h1 h2; exact ⟨x, r, rfl, h1, h2⟩
theorem nil_map {α : Type} {f : α → AVal} {rem : List α} (h : [] = rem.map f) : rem = [] := by cases rem with | nil => rfl | cons _ _ => cases h
theorem cons_mapp {v : AVal} {vs : List AVal} {rem : List (Str × E)} (h : v :: vs = (rem.map (·.1)).map AVal.str) : ∃ x rem', rem = x :: rem' ∧ v = .str x.1 ∧ vs = (rem'.map (·.1)).map AVal.str := by
  cases rem with
  | nil => cases h
  | cons x r => injection h with h1 h2; exact ⟨x, r, rfl, h1, h2⟩
theorem nil_mapp {rem : List (Str × E)} (h : [] = (rem.map (·.1)).map AVal.str) : rem = [] := by cases rem with | nil => rfl | cons _ _ => cases h

local macro_rules | `(tactic| walk_at "hyp") => `(tactic| first | assumption | rfl | exact upd_eq | exact Agree.get (by assumption) (by decide) (by walk_at "hyp") | exact upd_ne (by decide) (by walk_at "hyp"))
local macro_rules | `(tactic| walk_at "op") => `(tactic| first
  | exact op_eqs' rfl | exact op_eqi | exact op_lti | exact op_gti | exact op_add | exact op_sub | exact op_neb
  | exact op_getT (by assumption) (by decide) rfl
  | exact op_getL (by assumption) (by decide) (by walk_at "hyp")
  | exact op_getD (by assumption) (by walk_at "hyp")
  | exact op_inD_t (by assumption) (by assumption) (by assumption)
  | exact op_inD_f (by assumption) (by assumption) (by assumption)
  | exact op_ninD_t (by assumption) (by assumption) (by assumption)
  | exact op_ninD_f (by assumption) (by assumption) (by assumption)
  | exact op_inD' (by assumption) (by assumption) (by walk_at "hyp")
  | exact op_ninD' (by assumption) (by assumption) (by walk_at "hyp"))
local macro_rules | `(tactic| walk_at "evl") => `(tactic| first
  | exact EvL.nil
  | (refine' EvL.cons ?xa ?xb; (case xa => walk_at "ev"); (case xb => walk_at "evl")))
local macro_rules | `(tactic| walk_at "ev") => `(tactic| first
  | exact Ev.int | exact Ev.str | exact Ev.bool
  | exact Ev.loc rfl (by walk_at "hyp") rfl
  | exact Ev.cell rfl (by decide) (by walk_at "hyp") rfl
  | (refine' Ev.eqS ?xa ?xb; (case xa => walk_at "ev"); (case xb => decide))
  | (refine' Ev.sub0T ?xa ?xb; (case xa => walk_at "ev"); (case xb => assumption))
  | (refine' Ev.sub1T ?xa ?xb; (case xa => walk_at "ev"); (case xb => assumption))
  | exact Ev.glob (by assumption) rfl (by k_is) rfl rfl
  | exact Ev.blt (by assumption) rfl (by k_is) rfl (by decide) rfl
  | (refine' Ev.cmp0 ?xa ?xb ?xc; (case xa => walk_at "ev"); (case xb => walk_at "ev"); (case xc => walk_at "op"))
  | (refine' Ev.bin0 ?xa ?xb ?xc; (case xa => walk_at "ev"); (case xb => walk_at "ev"); (case xc => walk_at "op"))
  | (refine' Ev.sub0 ?xa ?xb ?xc ?xd ?xe; (case xa => walk_at "ev"); (case xb => walk_at "ev"); (case xc => assumption); (case xd => rfl); (case xe => walk_at "op"))
  | (refine' Ev.attr ?xG ?xP ?xa ?xc ?xd ?xe ?xf ?xg; (case xG => assumption); (case xP => assumption); (case xa => walk_at "ev"); (case xc => assumption); (case xd => assumption); (case xe => k_is); (case xf => walk_at "hyp"); (case xg => intro _ h; cases h))
  | (refine' Ev.call0 ?xa ?xk ?xb ?xc ?xd; (case xa => walk_at "ev"); (case xk => first | exact callForm_B | exact callForm_T | exact callForm_K (by assumption) (by k_is)); (case xb => walk_at "evl"); (case xc => walk_at "cal"); (case xd => intro _ _; rfl))
  | (refine' Ev.callH ?xa ?xk ?xb ?xc ?xd; (case xa => walk_at "ev"); (case xk => first | exact callForm_B | exact callForm_T | exact callForm_K (by assumption) (by k_is)); (case xb => walk_at "evl"); (case xc => walk_at "cal"); (case xd => intro _ _; rfl)))
local macro_rules | `(tactic| walk_at "cal") => `(tactic| first
  | assumption
  | exact call_lenD (by assumption) (by assumption) (by first | assumption | omega)
  | exact call_lenL (by assumption) (by first | assumption | omega))
local macro_rules | `(tactic| walk_at "tr") => `(tactic| first
  | (refine' Tr.eqS ?xa ?xb; (case xa => walk_at "ev"); (case xb => decide))
  | (refine' Tr.cmp0 ?xa ?xb ?xc; (case xa => walk_at "ev"); (case xb => walk_at "ev"); (case xc => walk_at "op"))
  | (refine' Tr.not_t ?xa; (case xa => walk_at "tr"))
  | (refine' Tr.not_f ?xa; (case xa => walk_at "tr"))
  | (refine' Tr.valb ?xa; (case xa => walk_at "ev")))

theorem fill0 (P : Params) : (∃ v, nsIn (hd.heap_39 P) mainGlobals "token_of" = some (some v)) ∧ Challenge.rw_pq0746_01.row.prog = Challenge.rw_pq0746_01.row.prog := by
  k_fill
  exact ⟨⟨_, by k_is⟩, rfl⟩

section
variable {w : World} {b₀ : Heap} {n : Nat} {P : Params} {H : List AObj}

def isTok (T : List (Str × AVal)) : E → Bool
  | .name x => !(aget T x).isSome
  | .text _ => true
  | _ => false
def tokOf : E → Str
  | .name x => x
  | .text x => x
  | _ => ""

theorem token_of_spec {ti : Nat} {T : List (Str × AVal)} {v : AVal} (G : Glo (hd.heap_39 P) b₀) (ht : H[ti]? = some (.dict T)) : ∀ e : E, IsE H e v → isTok T e = true →
    XC w b₀ 1 (.val (.ref 21)) [v, .ref ti] H (Fix (.str (tokOf e)) H) := by
  intro e he hx
  cases e with
  | name x =>
    obtain ⟨i, rfl, hi⟩ := id he
    have hx' : (!(aget T x).isSome) = true := hx
    refine XC.def (n := 0) (ps := ["e", "table"]) G (by k_is) (by k_is) rfl rfl (ar2 fun _ _ => rfl) (by decide) (by decide) (by decide) rfl rfl rfl ?_
    refine XS.skip (by walk_at "tr") ?_
    refine XS.ifT (Tr.and_t (by walk_at "tr") (Tr.and_t (by walk_at "tr") Tr.and_nil)) ?_
    exact XS.ret (by walk_at "ev") ⟨⟨rfl, rfl⟩, by simp⟩
  | text x =>
    obtain ⟨i, rfl, hi⟩ := id he
    refine XC.def (n := 0) (ps := ["e", "table"]) G (by k_is) (by k_is) rfl rfl (ar2 fun _ _ => rfl) (by decide) (by decide) (by decide) rfl rfl rfl ?_
    refine XS.ifT (by walk_at "tr") ?_
    exact XS.ret (by walk_at "ev") ⟨⟨rfl, rfl⟩, by simp⟩
  | _ => cases hx

theorem is_token_spec {ti : Nat} {T : List (Str × AVal)} {v : AVal} (G : Glo (hd.heap_39 P) b₀) (ht : H[ti]? = some (.dict T)) : ∀ e : E, IsE H e v →
    XC w b₀ 1 (.val (.ref 28)) [v, .ref ti] H (Fix (.bool (isTok T e)) H) := by
  intro e he
  refine XC.def (n := 0) (ps := ["e", "table"]) G (by k_is) (by k_is) rfl rfl (ar2 fun _ _ => rfl) (by decide) (by decide) (by decide) rfl rfl rfl ?_
  cases e with
  | name x =>
    obtain ⟨i, rfl, hi⟩ := id he
    exact XS.ret (v := .bool (!(aget T x).isSome)) (Ev.or_f (by walk_at "ev") (Ev.one (Ev.and_t (by walk_at "ev") (Ev.one (by walk_at "ev"))))) (by exact ⟨rfl, rfl⟩)
  | text x =>
    obtain ⟨i, rfl, hi⟩ := id he
    exact XS.ret (v := .bool true) (Ev.or_t (by walk_at "ev")) (by exact ⟨rfl, rfl⟩)
  | opt e =>
    obtain ⟨i, u, rfl, hi, _⟩ := id he
    exact XS.ret (v := .bool false) (Ev.or_f (by walk_at "ev") (Ev.one (Ev.and_f (by walk_at "ev")))) (by exact ⟨rfl, rfl⟩)
  | rep e =>
    obtain ⟨i, u, rfl, hi, _⟩ := id he
    exact XS.ret (v := .bool false) (Ev.or_f (by walk_at "ev") (Ev.one (Ev.and_f (by walk_at "ev")))) (by exact ⟨rfl, rfl⟩)
  | seq es =>
    obtain ⟨i, j, us, rfl, hi, _⟩ := id he
    exact XS.ret (v := .bool false) (Ev.or_f (by walk_at "ev") (Ev.one (Ev.and_f (by walk_at "ev")))) (by exact ⟨rfl, rfl⟩)
  | alt es =>
    obtain ⟨i, j, us, rfl, hi, _⟩ := id he
    exact XS.ret (v := .bool false) (Ev.or_f (by walk_at "ev") (Ev.one (Ev.and_f (by walk_at "ev")))) (by exact ⟨rfl, rfl⟩)

theorem lastLoc_agree {x : Str} : ∀ (ks : List Str) (l l0 : Str → Option AVal), Agree [x] l l0 → Agree [x] (lastLoc l x ks) l0
  | [], _, _, h => h
  | k :: ks, l, l0, h => lastLoc_agree ks (upd l x (.str k)) l0 (h.upd (by simp))

theorem merge_spec {i j : Nat} {T S : List (Str × AVal)} (G : Glo (hd.heap_39 P) b₀) (hi : H[i]? = some (.dict T)) (hj : H[j]? = some (.dict S)) (hz0 : T.length ≤ 1000) (hz : T.length + S.length ≤ 1000) (hz2 : (mT T (S.map (·.1))).length ≤ 1000) :
    XC w b₀ 1 (.val (.ref 35)) [.ref i, .ref j] H fun r H' => r = .bool (decide (((mT T (S.map (·.1))).length : Int) > (T.length : Int))) ∧ H' = H.set i (.dict (mT T (S.map (·.1)))) := by
  refine XC.def (n := 0) (ps := ["target", "source"]) G (by k_is) (by k_is) rfl rfl (ar2 fun _ _ => rfl) (by decide) (by decide) (by decide) rfl rfl rfl ?_
  refine XS.assign (by walk_at "ev") rfl (by decide) ?_
  refine XS.next (Ex.merge (T := T) (S := S) (i := i) (j := j) G rfl rfl rfl (by decide) (by decide) rfl rfl rfl hi hj rfl rfl hz) ?_
  have hl := lastLoc_agree (x := "token") (S.map (·.1)) (upd (fun x => List.lookup x (([Str.ofString "target", Str.ofString "source"] : List Str).zip [AVal.ref i, AVal.ref j])) (Str.ofString "size") (.int T.length)) _ Agree.refl
  have h2 : (H.set i (AObj.dict (mT T (S.map (·.1)))))[i]? = some (.dict (mT T (S.map (·.1)))) := List.getElem?_set_self (List.getElem?_eq_some_iff.mp hi).1
  exact XS.ret (v := .bool (decide (((mT T (S.map (·.1))).length : Int) > (T.length : Int)))) (by walk_at "ev") (by exact ⟨rfl, rfl⟩)
end

section
variable {w : World} {b₀ : Heap} {n : Nat} {P : Params} {H : List AObj}

inductive MB1 (H : List AObj) (em : List (Str × AVal)) (F : List E → Bool) (es : List E) (tv : AVal) (mi k : Nat) (vs : List AVal) (st : ASt) : Prop
  | mk : ∀ (es' : List E) (l : Str → Option AVal), IsEs H es' vs → hgts es' ≤ k → F es = F es' → st = ⟨H, l⟩ → l "table" = some tv → l "empty" = some (.ref mi) → MB1 H em F es tv mi k vs st
theorem mbe_spec {mi : Nat} {em : List (Str × AVal)} {tv : AVal} (G : Glo (hd.heap_39 P) b₀) (hm : H[mi]? = some (.dict em)) : ∀ (k : Nat) (e : E) (v : AVal), hgt e ≤ k → IsE H e v →
    XC w b₀ (k + 1) (.val (.ref 84)) [v, tv, .ref mi] H (Fix (.bool (mbe (fun x => (aget em x).isSome) e)) H) := by
  intro k
  induction k with
  | zero =>
    intro e v hk he
    refine XC.def (n := 0) (ps := ["e", "table", "empty"]) G (by k_is) (by k_is) rfl rfl (ar3 fun _ _ _ => rfl) (by decide) (by decide) (by decide) rfl rfl rfl ?_
    cases e with
    | name x =>
      obtain ⟨i, rfl, hi⟩ := id he
      refine XS.assign (by walk_at "ev") rfl (by decide) ?_
      refine XS.skip (Tr.or_f (by walk_at "tr") (Tr.or_f (by walk_at "tr") Tr.or_nil)) ?_
      refine XS.skip (by walk_at "tr") ?_
      refine XS.skip (by walk_at "tr") ?_
      exact XS.ret (v := .bool ((aget em x).isSome)) (Ev.and_t (by walk_at "ev") (Ev.one (by walk_at "ev"))) (by exact ⟨rfl, rfl⟩)
    | text x =>
      obtain ⟨i, rfl, hi⟩ := id he
      refine XS.assign (by walk_at "ev") rfl (by decide) ?_
      refine XS.skip (Tr.or_f (by walk_at "tr") (Tr.or_f (by walk_at "tr") Tr.or_nil)) ?_
      refine XS.skip (by walk_at "tr") ?_
      refine XS.skip (by walk_at "tr") ?_
      exact XS.ret (v := .bool false) (Ev.and_f (by walk_at "ev")) (by exact ⟨rfl, rfl⟩)
    | _ => exact absurd hk (Nat.not_succ_le_zero _)
  | succ k ih =>
    intro e v hk he
    cases e with
    | name x => exact (ih _ v (Nat.zero_le _) he).mono (by exact Nat.le_succ _) fun _ _ h => h
    | text x => exact (ih _ v (Nat.zero_le _) he).mono (by exact Nat.le_succ _) fun _ _ h => h
    | opt e =>
      refine XC.def (n := k + 1) (ps := ["e", "table", "empty"]) G (by k_is) (by k_is) rfl rfl (ar3 fun _ _ _ => rfl) (by decide) (by decide) (by decide) rfl rfl rfl ?_
      obtain ⟨i, u, rfl, hi, _⟩ := id he
      refine XS.assign (by walk_at "ev") rfl (by decide) ?_
      refine XS.ifT (Tr.or_t (by walk_at "tr")) ?_
      exact XS.ret (v := .bool true) (by walk_at "ev") (by exact ⟨⟨rfl, rfl⟩, by simp⟩)
    | rep e =>
      refine XC.def (n := k + 1) (ps := ["e", "table", "empty"]) G (by k_is) (by k_is) rfl rfl (ar3 fun _ _ _ => rfl) (by decide) (by decide) (by decide) rfl rfl rfl ?_
      obtain ⟨i, u, rfl, hi, _⟩ := id he
      refine XS.assign (by walk_at "ev") rfl (by decide) ?_
      refine XS.ifT (Tr.or_f (by walk_at "tr") (Tr.or_t (by walk_at "tr"))) ?_
      exact XS.ret (v := .bool true) (by walk_at "ev") (by exact ⟨⟨rfl, rfl⟩, by simp⟩)
    | seq es =>
      refine XC.def (n := k + 1) (ps := ["e", "table", "empty"]) G (by k_is) (by k_is) rfl rfl (ar3 fun _ _ _ => rfl) (by decide) (by decide) (by decide) rfl rfl rfl ?_
      obtain ⟨i, j, us, rfl, hi, hj, hes⟩ := id he
      have hk' : hgts es ≤ k := Nat.le_of_succ_le_succ hk
      refine XS.assign (by walk_at "ev") rfl (by decide) ?_
      refine XS.skip (Tr.or_f (by walk_at "tr") (Tr.or_f (by walk_at "tr") Tr.or_nil)) ?_
      refine XS.ifT (by walk_at "tr") ?_
      refine XS.forL (i := j) (vs := us) (by walk_at "ev") hj (XL.run (MB1 H em (mbeAll fun x => (aget em x).isSome) es tv mi k) (fun vs st h => ?_) (fun st h => ?_) (fun v vs st h => ?_) _ _ ⟨es, _, hes, hk', rfl, rfl, rfl, rfl⟩)
      · obtain ⟨_, l, _, _, _, rfl, _⟩ := h; exact hj
      · obtain ⟨es', l, h1, h2, h3, rfl, h5, h6⟩ := h
        cases h1.inv_nil
        refine XS.ret (v := .bool true) (by walk_at "ev") ⟨⟨?_, rfl⟩, by simp⟩
        rw [mbe, h3]; rfl
      · obtain ⟨es', l, h1, h2, h3, rfl, h5, h6⟩ := h
        obtain ⟨e1, es1, rfl, he1, hes1⟩ := h1.inv_cons
        replace h2 : max (hgt e1) (hgts es1) ≤ k := h2
        have hc := (ih e1 v (by exact om1 (by assumption)) he1).get
        refine ⟨_, As.name rfl (by decide), ?_⟩
        cases hb : mbe (fun x => (aget em x).isSome) e1 with
        | true =>
          rw [hb] at hc
          refine XS.skip (Tr.not_f (by walk_at "tr")) ?_
          refine XS.nil ⟨es1, _, hes1, by exact om2 (by assumption), ?_, rfl, upd_ne (by decide) h5, upd_ne (by decide) h6⟩
          rw [h3, mbeAll, hb]; rfl
        | false =>
          rw [hb] at hc
          refine XS.ifT (Tr.not_t (by walk_at "tr")) ?_
          refine XS.ret (v := .bool false) (by walk_at "ev") (by
            refine ⟨⟨⟨?_, rfl⟩, by simp⟩, by simp⟩
            rw [mbe, h3, mbeAll, hb]; rfl)
    | alt es =>
      refine XC.def (n := k + 1) (ps := ["e", "table", "empty"]) G (by k_is) (by k_is) rfl rfl (ar3 fun _ _ _ => rfl) (by decide) (by decide) (by decide) rfl rfl rfl ?_
      obtain ⟨i, j, us, rfl, hi, hj, hes⟩ := id he
      have hk' : hgts es ≤ k := Nat.le_of_succ_le_succ hk
      refine XS.assign (by walk_at "ev") rfl (by decide) ?_
      refine XS.skip (Tr.or_f (by walk_at "tr") (Tr.or_f (by walk_at "tr") Tr.or_nil)) ?_
      refine XS.skip (by walk_at "tr") ?_
      refine XS.ifT (by walk_at "tr") ?_
      refine XS.forL (i := j) (vs := us) (by walk_at "ev") hj (XL.run (MB1 H em (mbeAny fun x => (aget em x).isSome) es tv mi k) (fun vs st h => ?_) (fun st h => ?_) (fun v vs st h => ?_) _ _ ⟨es, _, hes, hk', rfl, rfl, rfl, rfl⟩)
      · obtain ⟨_, l, _, _, _, rfl, _⟩ := h; exact hj
      · obtain ⟨es', l, h1, h2, h3, rfl, h5, h6⟩ := h
        cases h1.inv_nil
        refine XS.ret (v := .bool false) (by walk_at "ev") ⟨⟨?_, rfl⟩, by simp⟩
        rw [mbe, h3]; rfl
      · obtain ⟨es', l, h1, h2, h3, rfl, h5, h6⟩ := h
        obtain ⟨e1, es1, rfl, he1, hes1⟩ := h1.inv_cons
        replace h2 : max (hgt e1) (hgts es1) ≤ k := h2
        have hc := (ih e1 v (by exact om1 (by assumption)) he1).get
        refine ⟨_, As.name rfl (by decide), ?_⟩
        cases hb : mbe (fun x => (aget em x).isSome) e1 with
        | false =>
          rw [hb] at hc
          refine XS.skip (by walk_at "tr") ?_
          refine XS.nil ⟨es1, _, hes1, by exact om2 (by assumption), ?_, rfl, upd_ne (by decide) h5, upd_ne (by decide) h6⟩
          rw [h3, mbeAny, hb]; rfl
        | true =>
          rw [hb] at hc
          refine XS.ifT (by walk_at "tr") ?_
          refine XS.ret (v := .bool true) (by walk_at "ev") (by
            refine ⟨⟨⟨?_, rfl⟩, by simp⟩, by simp⟩
            rw [mbe, h3, mbeAny, hb]; rfl)
end

theorem nodup_len {α : Type} [DecidableEq α] : ∀ {l m : List α}, l.Nodup → (∀ x ∈ l, x ∈ m) → l.length ≤ m.length
  | [], _, _, _ => Nat.zero_le _
  | a :: l, m, hn, h => by
    rw [List.nodup_cons] at hn
    have ha : a ∈ m := h a List.mem_cons_self
    have h1 : l.length ≤ (m.erase a).length := nodup_len hn.2 fun x hx => by
      have hne : x ≠ a := fun e => hn.1 (e ▸ hx)
      exact (List.mem_erase_of_ne hne).mpr (h x (List.mem_cons_of_mem _ hx))
    rw [List.length_erase_of_mem ha] at h1
    have : 0 < m.length := List.length_pos_of_mem ha
    simp only [List.length_cons]; omega

section
variable {kvs : List (Str × AVal)} {x y : Str} {v : AVal}
theorem has_iff : (aget kvs x).isSome = true ↔ x ∈ kvs.map (·.1) := by
  unfold aget
  rw [Option.isSome_map, List.find?_isSome]
  constructor
  · rintro ⟨p, hp, e⟩
    exact List.mem_map.mpr ⟨p, hp, by simpa using e⟩
  · intro h
    obtain ⟨p, hp, e⟩ := List.mem_map.mp h
    exact ⟨p, hp, by simpa using e⟩
theorem none_iff : aget kvs x = none ↔ x ∉ kvs.map (·.1) := by
  rw [← has_iff]
  cases aget kvs x <;> simp
theorem any_iff : (kvs.any fun kv => decide (kv.1 = x)) = true ↔ x ∈ kvs.map (·.1) := by
  rw [List.any_eq_true]
  constructor
  · rintro ⟨p, hp, e⟩
    exact List.mem_map.mpr ⟨p, hp, by simpa using e⟩
  · intro h
    obtain ⟨p, hp, e⟩ := List.mem_map.mp h
    exact ⟨p, hp, by simpa using e⟩
theorem aput_new (h : x ∉ kvs.map (·.1)) : aput kvs x v = kvs ++ [(x, v)] := by
  unfold aput
  rw [if_neg (fun q => h (any_iff.mp q))]
theorem aput_keys' : (aput kvs x v).map (·.1) = if x ∈ kvs.map (·.1) then kvs.map (·.1) else kvs.map (·.1) ++ [x] := by
  split
  · exact aput_keys (by assumption)
  · rename_i h; rw [aput_new h]; simp
theorem mem_aput : y ∈ (aput kvs x v).map (·.1) ↔ y = x ∨ y ∈ kvs.map (·.1) := by
  rw [aput_keys']
  split
  · rename_i h
    constructor
    · exact .inr
    · rintro (rfl | h')
      · exact h
      · exact h'
  · rw [List.mem_append, List.mem_singleton, or_comm]
theorem has_aput : (aget (aput kvs x v) y).isSome = (decide (y = x) || (aget kvs y).isSome) := by
  rw [Bool.eq_iff_iff, has_iff, mem_aput, Bool.or_eq_true, has_iff, decide_eq_true_iff]
theorem aget_find : ∀ {kvs : List (Str × AVal)}, aget (kvs.map fun kv => if kv.1 = x then (kv.1, v) else kv) y = if y = x then (aget kvs y).map (fun _ => v) else aget kvs y
  | [] => by simp [aget]
  | p :: r => by
    have ih := aget_find (kvs := r)
    simp only [aget, List.map_cons, List.find?_cons] at ih ⊢
    by_cases h1 : p.1 = x
    · rw [if_pos h1]
      by_cases h2 : p.1 = y
      · have : y = x := h2 ▸ h1
        simp [h2, this]
      · simp only [h2, decide_false]; exact ih
    · rw [if_neg h1]
      by_cases h2 : p.1 = y
      · have : ¬ y = x := h2 ▸ h1
        simp [h2, this]
      · simp only [h2, decide_false]; exact ih
theorem aget_append_none {l : List (Str × AVal)} (h : aget kvs y = none) : aget (kvs ++ l) y = aget l y := by
  have h1 : kvs.find? (fun kv => decide (kv.1 = y)) = none := by
    unfold aget at h; simpa using h
  unfold aget; rw [List.find?_append, h1]; rfl
theorem aget_append_some {l : List (Str × AVal)} (h : aget kvs y = some v) : aget (kvs ++ l) y = some v := by
  unfold aget at h ⊢
  obtain ⟨p, hp, e⟩ := Option.map_eq_some_iff.mp h
  rw [List.find?_append, hp]; simp [e]
theorem aget_aput : aget (aput kvs x v) y = if y = x then some v else aget kvs y := by
  by_cases h : x ∈ kvs.map (·.1)
  · unfold aput
    rw [if_pos (any_iff.mpr h), aget_find]
    split
    · rename_i e; subst e
      obtain ⟨u, hu⟩ := Option.isSome_iff_exists.mp (has_iff.mpr h)
      rw [hu]; rfl
    · rfl
  · rw [aput_new h]
    by_cases e : y = x
    · subst e
      rw [aget_append_none (none_iff.mpr h), if_pos rfl]; simp [aget]
    · rw [if_neg e]
      cases hk : aget kvs y with
      | some u => exact aget_append_some hk
      | none => rw [aget_append_none hk]; simp [aget, Ne.symm e]
end

/-- a dict whose keys are of tk, each once -/
def TokD (tk : List Str) (kvs : List (Str × AVal)) : Prop := (kvs.map (·.1)).Nodup ∧ ∀ k ∈ kvs.map (·.1), k ∈ tk
theorem TokD.nil {tk : List Str} : TokD tk [] := ⟨by simp, by simp⟩
theorem TokD.len {tk : List Str} {kvs : List (Str × AVal)} (h : TokD tk kvs) : kvs.length ≤ tk.length := by
  have := nodup_len h.1 h.2
  simpa using this
theorem TokD.put {tk : List Str} {kvs : List (Str × AVal)} {x : Str} {v : AVal} (h : TokD tk kvs) (hx : x ∈ tk) : TokD tk (aput kvs x v) := by
  refine ⟨?_, fun k hk => ?_⟩
  · rw [aput_keys']
    split
    · exact h.1
    · rename_i hn
      rw [List.nodup_append]
      exact ⟨h.1, by simp, fun a ha b hb => by rw [List.mem_singleton.mp hb]; rintro rfl; exact hn ha⟩
  · rcases mem_aput.mp hk with rfl | hk
    · exact hx
    · exact h.2 k hk
theorem TokD.mT {tk : List Str} : ∀ {ks : List Str} {T : List (Str × AVal)}, TokD tk T → (∀ k ∈ ks, k ∈ tk) → TokD tk (mT T ks)
  | [], _, h, _ => h
  | k :: ks, T, h, hk => TokD.mT (ks := ks) (T := aput T k (.bool true)) (h.put (hk k List.mem_cons_self)) fun j hj => hk j (List.mem_cons_of_mem _ hj)
theorem aput_len_ge {kvs : List (Str × AVal)} {x : Str} {v : AVal} : kvs.length ≤ (aput kvs x v).length := by
  unfold aput; split <;> simp
theorem mT_len_ge : ∀ {ks : List Str} {T : List (Str × AVal)}, T.length ≤ (mT T ks).length
  | [], _ => Nat.le_refl _
  | k :: ks, T => Nat.le_trans aput_len_ge (mT_len_ge (ks := ks) (T := aput T k (.bool true)))

section
variable {H l : List AObj} {o o' : AObj} {i : Nat}
theorem ast_eq {H1 H2 : List AObj} {l : Str → Option AVal} (h : H1 = H2) : (⟨H1, l⟩ : ASt) = ⟨H2, l⟩ := by rw [h]
theorem app_at : (H ++ [o])[H.length]? = some o := by simp
theorem app_set : (H ++ [o]).set H.length o' = H ++ [o'] := by
  rw [List.set_append_right _ _ (Nat.le_refl _)]; simp
theorem app_lt (h : H[i]? = some o) : (H ++ l)[i]? = some o := by
  rw [List.getElem?_append_left (List.getElem?_eq_some_iff.mp h).1]; exact h
theorem lt_of_at (h : H[i]? = some o) : i < H.length := (List.getElem?_eq_some_iff.mp h).1
theorem set_at (h : H[i]? = some o) : (H.set i o')[i]? = some o' := List.getElem?_set_self (lt_of_at h)
theorem set_ne {j : Nat} (hij : i ≠ j) (h : H[j]? = some o) : (H.set i o')[j]? = some o := by rw [List.getElem?_set_ne hij]; exact h
end

mutual
theorem mbe_mono {N M : Str → Bool} (h : ∀ x, N x = true → M x = true) : ∀ e : E, mbe N e = true → mbe M e = true
  | .name x, he => by rw [mbe] at he ⊢; exact h x he
  | .text x, he => by rw [mbe] at he; cases he
  | .opt e, _ => by rw [mbe]
  | .rep e, _ => by rw [mbe]
  | .seq es, he => by rw [mbe] at he ⊢; exact mbeAll_mono h es he
  | .alt es, he => by rw [mbe] at he ⊢; exact mbeAny_mono h es he
theorem mbeAll_mono {N M : Str → Bool} (h : ∀ x, N x = true → M x = true) : ∀ es : List E, mbeAll N es = true → mbeAll M es = true
  | [], _ => by rw [mbeAll]
  | e :: es, he => by
    rw [mbeAll, Bool.and_eq_true] at he ⊢
    exact ⟨mbe_mono h e he.1, mbeAll_mono h es he.2⟩
theorem mbeAny_mono {N M : Str → Bool} (h : ∀ x, N x = true → M x = true) : ∀ es : List E, mbeAny N es = true → mbeAny M es = true
  | [], he => by rw [mbeAny] at he; cases he
  | e :: es, he => by
    rw [mbeAny, Bool.or_eq_true] at he ⊢
    exact he.imp (mbe_mono h e) (mbeAny_mono h es)
end

/-- the least set closed under the rules -/
structure Least (rs : List (Str × E)) (N : Str → Bool) : Prop where
  sup : ∀ x, N x = true → ∃ e, eget rs x = some e ∧ mbe N e = true
  closed : ∀ x e, eget rs x = some e → mbe N e = true → N x = true
  least : ∀ M : Str → Bool, (∀ x e, eget rs x = some e → mbe M e = true → M x = true) → ∀ x, N x = true → M x = true

theorem eget_mem {rs : List (Str × E)} {x : Str} {e : E} (h : eget rs x = some e) : (x, e) ∈ rs := by
  unfold eget at h
  obtain ⟨p, hp, e'⟩ := Option.map_eq_some_iff.mp h
  have h1 := List.mem_of_find?_eq_some hp
  have h2 := List.find?_some hp
  have h3 : p.1 = x := by simpa using h2
  rw [← h3, ← e']; exact h1
theorem eget_key {rs : List (Str × E)} {x : Str} : (∃ e, eget rs x = some e) ↔ x ∈ rs.map (·.1) := by
  constructor
  · rintro ⟨e, h⟩
    exact List.mem_map.mpr ⟨_, eget_mem h, rfl⟩
  · intro h
    obtain ⟨p, hp, e'⟩ := List.mem_map.mp h
    unfold eget
    have : (rs.find? fun r => decide (r.1 = x)).isSome = true := List.find?_isSome.mpr ⟨p, hp, by simpa using e'⟩
    obtain ⟨q, hq⟩ := Option.isSome_iff_exists.mp this
    exact ⟨q.2, by rw [hq]; rfl⟩

section
variable {w : World} {b₀ : Heap} {n : Nat} {P : Params} {H : List AObj}

/-- a table of rules and its order in the heap -/
structure Tb (H : List AObj) (rs : List (Str × E)) (ti oi : Nat) : Prop where
  tab : ∃ ps, H[ti]? = some (.dict ps) ∧ IsT H rs ps
  ord : H[oi]? = some (.list ((rs.map (·.1)).map .str))
  nodup : (rs.map (·.1)).Nodup
  small : rs.length ≤ 4
  low : ∀ x e, eget rs x = some e → hgt e ≤ 2

def hasK (em : List (Str × AVal)) : Str → Bool := fun x => (aget em x).isSome

inductive EW1 (H : List AObj) (rs : List (Str × E)) (ti oi : Nat) (m : Nat) (st : ASt) : Prop
  | mk : ∀ (em : List (Str × AVal)) (g : Bool) (l : Str → Option AVal), st = ⟨H ++ [.dict em], l⟩ → l "empty" = some (.ref H.length) → l "table" = some (.ref ti) → l "order" = some (.ref oi) → l "grown" = some (.bool g) → TokD (rs.map (·.1)) em →
    (∀ x, hasK em x = true → ∃ e, eget rs x = some e ∧ mbe (hasK em) e = true) → (∀ M : Str → Bool, (∀ x e, eget rs x = some e → mbe M e = true → M x = true) → ∀ x, hasK em x = true → M x = true) →
    (g = false → ∀ x e, eget rs x = some e → mbe (hasK em) e = true → hasK em x = true) → m = 2 * (rs.length - em.length) + (if g then 1 else 0) → EW1 H rs ti oi m st
inductive EW2 (H : List AObj) (rs : List (Str × E)) (ti oi : Nat) (em : List (Str × AVal)) (vs : List AVal) (st : ASt) : Prop
  | mk : ∀ (rem : List Str) (em2 : List (Str × AVal)) (g2 : Bool) (l2 : Str → Option AVal), vs = rem.map AVal.str → (∀ x ∈ rem, x ∈ rs.map (·.1)) → st = ⟨H ++ [.dict em2], l2⟩ → l2 "empty" = some (.ref H.length) → l2 "table" = some (.ref ti) → l2 "order" = some (.ref oi) → l2 "grown" = some (.bool g2) → TokD (rs.map (·.1)) em2 →
    (∀ x, hasK em2 x = true → ∃ e, eget rs x = some e ∧ mbe (hasK em2) e = true) → (∀ M : Str → Bool, (∀ x e, eget rs x = some e → mbe M e = true → M x = true) → ∀ x, hasK em2 x = true → M x = true) →
    (g2 = true → em.length < em2.length) → (g2 = false → em2 = em ∧ ∀ x, x ∈ rs.map (·.1) → x ∉ rem → ∀ e, eget rs x = some e → mbe (hasK em) e = true → hasK em x = true) → EW2 H rs ti oi em vs st
inductive EWP (H : List AObj) (rs : List (Str × E)) (r : AVal) (H' : List AObj) : Prop
  | mk : ∀ (em : List (Str × AVal)), r = .ref H.length → H' = H ++ [.dict em] → TokD (rs.map (·.1)) em → Least rs (hasK em) → EWP H rs r H'
theorem empty_rules_spec {rs : List (Str × E)} {ti oi : Nat} (G : Glo (hd.heap_39 P) b₀) (T : Tb H rs ti oi) :
    XC w b₀ 4 (.val (.ref 91)) [.ref ti, .ref oi] H (EWP H rs) := by
  obtain ⟨ps, hti, hps⟩ := T.tab
  have hoi := T.ord
  refine XC.def (n := 3) (ps := ["table", "order"]) G (by k_is) (by k_is) rfl rfl (ar2 fun _ _ => rfl) (by decide) (by decide) (by decide) rfl rfl rfl ?_
  refine XS.assign Ev.dict0 rfl (by decide) ?_
  refine XS.assign (by walk_at "ev") rfl (by decide) ?_
  refine XS.while_ (EW1 H rs ti oi)
    (fun m st h => ?_) _ ⟨[], true, _, rfl, rfl, rfl, rfl, rfl, TokD.nil, fun x hx => by simp [hasK, aget] at hx, fun M _ x hx => by simp [hasK, aget] at hx, fun h => (by cases h), rfl⟩
  obtain ⟨em, g, l, rfl, h1, h2, h3, h4, hT, hS, hL, hC, hm⟩ := h
  cases g with
  | false =>
    refine .inl ⟨_, by walk_at "tr", ?_⟩
    exact XS.ret (v := .ref H.length) (by walk_at "ev") (by exact ⟨em, rfl, rfl, hT, hS, hC rfl, hL⟩)
  | true =>
    refine .inr ⟨_, by walk_at "tr", ?_⟩
    refine XS.assign (by walk_at "ev") rfl (by decide) ?_
    have hlenT : em.length ≤ rs.length := by have := hT.len; simpa using this
    refine XS.forL (i := oi) (vs := (rs.map (·.1)).map .str) (by walk_at "ev") (app_lt hoi) (XL.run (EW2 H rs ti oi em)
      (fun vs st h => ?_) (fun st h => ?_) (fun v vs st h => ?_) _ _ ⟨rs.map (·.1), em, false, _, rfl, fun _ h => h, rfl, upd_ne (by decide) h1, upd_ne (by decide) h2, upd_ne (by decide) h3, upd_eq, hT, hS, hL, fun h => (by cases h), fun _ => ⟨rfl, fun x hx hn => absurd hx hn⟩⟩)
    · obtain ⟨rem, em2, g2, l2, _, _, rfl, _⟩ := h; exact app_lt hoi
    · obtain ⟨rem, em2, g2, l2, hv, hr, rfl, q1, q2, q3, q4, qT, qS, qL, qg, qf⟩ := h
      obtain rfl := nil_map hv
      have hlen2 : em2.length ≤ rs.length := by have := qT.len; simpa using this
      refine XS.nil ⟨_, ?_, em2, g2, l2, rfl, q1, q2, q3, q4, qT, qS, qL, fun e => ?_, rfl⟩
      · cases g2 with
        | true => have := qg rfl; subst hm; simp only [if_true]; exact om11 (by assumption) (by assumption)
        | false => obtain ⟨rfl, _⟩ := qf rfl; subst hm; simp
      · obtain ⟨rfl, q⟩ := qf e
        intro x ex hx
        exact q x (eget_key.mp ⟨ex, hx⟩) (by simp) ex hx
    · obtain ⟨rem, em2, g2, l2, hv, hr, rfl, q1, q2, q3, q4, qT, qS, qL, qg, qf⟩ := h
      replace hv := cons_map hv
      obtain ⟨x, rem, rfl, rfl, rfl⟩ := hv
      refine ⟨_, As.name rfl (by decide), ?_⟩
      have hxm : x ∈ rs.map (·.1) := hr x List.mem_cons_self
      obtain ⟨ex, hex⟩ := eget_key.mpr hxm
      obtain ⟨vx, hvx, hvE⟩ := hps.some hex
      have hti' : (H ++ [AObj.dict em2])[ti]? = some (.dict ps) := app_lt hti
      have hem2 : (H ++ [AObj.dict em2])[H.length]? = some (.dict em2) := app_at
      have hlen2 : em2.length ≤ rs.length := by have := qT.len; simpa using this
      have hsm := T.small
      cases ha : aget em2 x with
      | some u =>
        refine XS.skip (Tr.and_f (by walk_at "tr")) ?_
        refine XS.nil ⟨rem, em2, g2, _, rfl, fun y hy => hr y (List.mem_cons_of_mem _ hy), rfl, upd_ne (by decide) q1, upd_ne (by decide) q2, upd_ne (by decide) q3, upd_ne (by decide) q4, qT, qS, qL, qg, fun e => ?_⟩
        obtain ⟨rfl, q⟩ := qf e
        refine ⟨rfl, fun y hy hny e' he' hme => ?_⟩
        by_cases hyx : y = x
        · subst hyx; unfold hasK; rw [ha]; rfl
        · exact q y hy (by simp [hyx, hny]) e' he' hme
      | none =>
        have hvE2 : IsE (H ++ [AObj.dict em2]) ex vx := hvE.kp (Kp.refl.app _) Wr.nil
        have hc := (mbe_spec (w := w) (tv := .ref ti) G hem2 2 ex vx (T.low x ex hex) hvE2).get
        cases hb : mbe (hasK em2) ex with
        | false =>
          rw [show mbe (fun x => (aget em2 x).isSome) ex = false from hb] at hc
          refine XS.skip (Tr.and_t (by walk_at "tr") (Tr.and_f (by exact Tr.valb (Ev.call0 (by walk_at "ev") (callForm_K G (by k_is)) (EvL.cons (Ev.subD (by walk_at "ev") (by walk_at "ev") hti' hvx hs_n) (by walk_at "evl")) hc (by intro _ _; rfl)))) ) ?_
          refine XS.nil ⟨rem, em2, g2, _, rfl, fun y hy => hr y (List.mem_cons_of_mem _ hy), rfl, upd_ne (by decide) q1, upd_ne (by decide) q2, upd_ne (by decide) q3, upd_ne (by decide) q4, qT, qS, qL, qg, fun e => ?_⟩
          obtain ⟨rfl, q⟩ := qf e
          refine ⟨rfl, fun y hy hny e' he' hme => ?_⟩
          by_cases hyx : y = x
          · subst hyx
            rw [hex] at he'; cases he'
            rw [hb] at hme; cases hme
          · exact q y hy (by simp [hyx, hny]) e' he' hme
        | true =>
          rw [show mbe (fun x => (aget em2 x).isSome) ex = true from hb] at hc
          refine XS.ifT (Tr.and_t (by walk_at "tr") (Tr.and_t (by exact Tr.valb (Ev.call0 (by walk_at "ev") (callForm_K G (by k_is)) (EvL.cons (Ev.subD (by walk_at "ev") (by walk_at "ev") hti' hvx hs_n) (by walk_at "evl")) hc (by intro _ _; rfl))) Tr.and_nil)) ?_
          refine XS.next (Ex.setItem (v1 := .bool true) (by walk_at "ev") (by walk_at "ev") (by walk_at "ev") (op_setD hem2 (by exact om8 (by assumption) (by assumption) (by decide)))) ?_
          refine XS.assign (by walk_at "ev") rfl (by decide) ?_
          have hmono : ∀ y, hasK em2 y = true → hasK (aput em2 x (.bool true)) y = true := fun y hy => by
            have hy' : (aget em2 y).isSome = true := hy
            unfold hasK; rw [has_aput, hy']; simp
          have hnk : x ∉ em2.map (·.1) := none_iff.mp ha
          have hl2 : (aput em2 x (AVal.bool true)).length = em2.length + 1 := by rw [aput_new hnk]; simp
          have hge : em.length ≤ em2.length := by
            cases g2 with
            | true => have := qg rfl; exact Nat.le_of_lt (by assumption)
            | false => obtain ⟨rfl, _⟩ := qf rfl; exact Nat.le_refl _
          refine XS.nil ⟨XS.nil ?_, by simp⟩
          dsimp only [Turn]
          refine ⟨rem, aput em2 x (.bool true), true, _, rfl, fun y hy => hr y (List.mem_cons_of_mem _ hy), ast_eq app_set, upd_ne (by decide) (upd_ne (by decide) q1), upd_ne (by decide) (upd_ne (by decide) q2), upd_ne (by decide) (upd_ne (by decide) q3), upd_eq, qT.put hxm, fun y hy => ?_, fun M hM y hy => ?_, fun _ => by omega, fun e => (by cases e)⟩
          · have hy2 : (decide (y = x) || (aget em2 y).isSome) = true := by rw [← has_aput (v := .bool true)]; exact hy
            rw [Bool.or_eq_true] at hy2
            rcases hy2 with hyx | hy2
            · have : y = x := by simpa using hyx
              subst this
              exact ⟨ex, hex, mbe_mono hmono ex hb⟩
            · obtain ⟨e', he', hm'⟩ := qS y hy2
              exact ⟨e', he', mbe_mono hmono e' hm'⟩
          · have hy2 : (decide (y = x) || (aget em2 y).isSome) = true := by rw [← has_aput (v := .bool true)]; exact hy
            rw [Bool.or_eq_true] at hy2
            rcases hy2 with hyx | hy2
            · have : y = x := by simpa using hyx
              subst this
              exact hM y ex hex (mbe_mono (qL M hM) ex hb)
            · exact qL M hM y hy2
end

section
variable {w : World} {b₀ : Heap} {n : Nat} {P : Params} {H : List AObj}

mutual
def okE (rs : List (Str × E)) (tk : List Str) : E → Prop
  | .name x => (∃ e, eget rs x = some e) ∨ x ∈ tk
  | .text x => x ∈ tk
  | .opt e => okE rs tk e
  | .rep e => okE rs tk e
  | .seq es => okEs rs tk es ∧ es.length ≤ 10
  | .alt es => okEs rs tk es ∧ es.length ≤ 10
def okEs (rs : List (Str × E)) (tk : List Str) : List E → Prop
  | [] => True
  | e :: es => okE rs tk e ∧ okEs rs tk es
end
/-- rows of tokens -/
def Rw (H : List AObj) (rs : List (Str × E)) (tk : List Str) (fi : Nat) : Prop := ∃ rows, H[fi]? = some (.dict rows) ∧ ∀ x, x ∈ rs.map (·.1) → ∃ d kv, aget rows x = some (.ref d) ∧ H[d]? = some (.dict kv) ∧ TokD tk kv
theorem Rw.kp {H H' : List AObj} {rs : List (Str × E)} {tk : List Str} {fi : Nat} (h : Rw H rs tk fi) (a : Kp [] H H') : Rw H' rs tk fi := by
  obtain ⟨rows, h1, h2⟩ := h
  exact ⟨rows, a.at h1, fun x hx => let ⟨d, kv, h3, h4, h5⟩ := h2 x hx; ⟨d, kv, h3, a.at h4, h5⟩⟩

inductive FOP (H : List AObj) (tk : List Str) (r : AVal) (H' : List AObj) : Prop
  | mk : ∀ (d : Nat) (kv : List (Str × AVal)), r = .ref d → H'[d]? = some (.dict kv) → TokD tk kv → Kp [] H H' → FOP H tk r H'
inductive FO1 (H : List AObj) (rs : List (Str × E)) (tk : List Str) (tag : Str) (k ti mi fi : Nat) (vs : List AVal) (st : ASt) : Prop
  | mk : ∀ (es' : List E) (kv : List (Str × AVal)) (H1 : List AObj) (l : Str → Option AVal), IsEs H es' vs → hgts es' ≤ k → okEs rs tk es' → st = ⟨H1, l⟩ → Kp [] H H1 → H1[H.length]? = some (.dict kv) → TokD tk kv →
    l "found" = some (.ref H.length) → l "tag" = some (.str tag) → l "table" = some (.ref ti) → l "empty" = some (.ref mi) → l "firsts" = some (.ref fi) → FO1 H rs tk tag k ti mi fi vs st
theorem first_of_spec {rs : List (Str × E)} {tk : List Str} {ti mi fi : Nat} {ps em : List (Str × AVal)} (G : Glo (hd.heap_39 P) b₀) (hk10 : tk.length ≤ 10) : ∀ (k : Nat) (e : E) (v : AVal) (H : List AObj), H[ti]? = some (.dict ps) → IsT H rs ps → H[mi]? = some (.dict em) → Rw H rs tk fi → hgt e ≤ k → IsE H e v → okE rs tk e →
    XC w b₀ (k + 2) (.val (.ref 98)) [v, .ref ti, .ref mi, .ref fi] H (FOP H tk) := by
  intro k
  induction k with
  | zero =>
    intro e v H hti hT hmi hF hk he ho
    refine XC.def (n := 1) (ps := ["e", "table", "empty", "firsts"]) G (by k_is) (by k_is) rfl rfl (ar4 fun _ _ _ _ => rfl) (by decide) (by decide) (by decide) rfl rfl rfl ?_
    have hti' : (H ++ [AObj.dict []])[ti]? = some (.dict ps) := app_lt hti
    cases e with
    | name x =>
      have hq := (is_token_spec (w := w) G hti _ he).get
      rcases hx : eget rs x with _ | ex
      · have hn := hT.none hx
        have htk : isTok ps (.name x) = true := by rw [isTok, hn]; rfl
        rw [htk] at hq
        have hq2 := (token_of_spec (w := w) G hti' _ (he.kp (Kp.refl.app _) Wr.nil) htk).get
        have hxt : x ∈ tk := by
          rw [okE] at ho
          rcases ho with ⟨e, h⟩ | h
          · rw [hx] at h; cases h
          · exact h
        refine XS.ifT (by walk_at "tr") ?_
        refine XS.ret (Ev.dict1 (x := x) (v := .bool true) (by walk_at "ev") (by walk_at "ev") app_at) ?_
        refine ⟨⟨H.length, [(x, .bool true)], rfl, ?_, ⟨by simp, by simp [hxt]⟩, (Kp.refl.app _).set (.inr (Nat.le_refl _))⟩, by simp⟩
        exact set_at app_at
      · obtain ⟨vx, hvx, _⟩ := hT.some hx
        have htk : isTok ps (.name x) = false := by rw [isTok, hvx]; rfl
        rw [htk] at hq
        obtain ⟨i, rfl, hi⟩ := id he
        obtain ⟨rows, hr1, hr2⟩ := hF
        obtain ⟨d, kv, hr3, hr4, hr5⟩ := hr2 x (eget_key.mp ⟨ex, hx⟩)
        refine XS.skip (by walk_at "tr") ?_
        refine XS.assign (by walk_at "ev") rfl (by decide) ?_
        refine XS.ifT (by walk_at "tr") ?_
        refine XS.ret (Ev.subD (by walk_at "ev") (by walk_at "ev") hr1 hr3 hs_s) ?_
        exact ⟨⟨d, kv, rfl, hr4, hr5, Kp.refl⟩, by simp⟩
    | text x =>
      have hq := (is_token_spec (w := w) G hti _ he).get
      have htk : isTok ps (.text x) = true := rfl
      rw [htk] at hq
      have hq2 := (token_of_spec (w := w) G hti' _ (he.kp (Kp.refl.app _) Wr.nil) htk).get
      have hxt : x ∈ tk := ho
      refine XS.ifT (by walk_at "tr") ?_
      refine XS.ret (Ev.dict1 (x := x) (v := .bool true) (by walk_at "ev") (by walk_at "ev") app_at) ?_
      refine ⟨⟨H.length, [(x, .bool true)], rfl, ?_, ⟨by simp, by simp [hxt]⟩, (Kp.refl.app _).set (.inr (Nat.le_refl _))⟩, by simp⟩
      exact set_at app_at
    | _ => exact absurd hk (Nat.not_succ_le_zero _)
  | succ k ih =>
    intro e v H hti hT hmi hF hk he ho
    cases e with
    | name x => exact (ih _ v H hti hT hmi hF (Nat.zero_le _) he ho).mono (by exact Nat.le_succ _) fun _ _ h => h
    | text x => exact (ih _ v H hti hT hmi hF (Nat.zero_le _) he ho).mono (by exact Nat.le_succ _) fun _ _ h => h
    | opt e =>
      have hq := ((is_token_spec (w := w) G hti _ he).get).mono (show 1 ≤ k + 2 by exact om9 (by decide))
      rw [show isTok ps (.opt e) = false from rfl] at hq
      refine XC.def (n := k + 2) (ps := ["e", "table", "empty", "firsts"]) G (by k_is) (by k_is) rfl rfl (ar4 fun _ _ _ _ => rfl) (by decide) (by decide) (by decide) rfl rfl rfl ?_
      obtain ⟨i, u, rfl, hi, hu⟩ := id he
      obtain ⟨r, H', hc, d, kv, rfl, h1, h2, h3⟩ := ih e u H hti hT hmi hF (Nat.le_of_succ_le_succ hk) hu ho
      refine XS.skip (by walk_at "tr") ?_
      refine XS.assign (by walk_at "ev") rfl (by decide) ?_
      refine XS.skip (by walk_at "tr") ?_
      refine XS.ifT (Tr.or_t (by walk_at "tr")) ?_
      refine XS.ret (v := .ref d) (by walk_at "ev") ?_
      exact ⟨⟨d, kv, rfl, h1, h2, h3⟩, by simp⟩
    | rep e =>
      have hq := ((is_token_spec (w := w) G hti _ he).get).mono (show 1 ≤ k + 2 by exact om9 (by decide))
      rw [show isTok ps (.rep e) = false from rfl] at hq
      refine XC.def (n := k + 2) (ps := ["e", "table", "empty", "firsts"]) G (by k_is) (by k_is) rfl rfl (ar4 fun _ _ _ _ => rfl) (by decide) (by decide) (by decide) rfl rfl rfl ?_
      obtain ⟨i, u, rfl, hi, hu⟩ := id he
      obtain ⟨r, H', hc, d, kv, rfl, h1, h2, h3⟩ := ih e u H hti hT hmi hF (Nat.le_of_succ_le_succ hk) hu ho
      refine XS.skip (by walk_at "tr") ?_
      refine XS.assign (by walk_at "ev") rfl (by decide) ?_
      refine XS.skip (by walk_at "tr") ?_
      refine XS.ifT (Tr.or_f (by walk_at "tr") (Tr.or_t (by walk_at "tr"))) ?_
      refine XS.ret (v := .ref d) (by walk_at "ev") ?_
      exact ⟨⟨d, kv, rfl, h1, h2, h3⟩, by simp⟩
    | seq es =>
      have hq := ((is_token_spec (w := w) G hti _ he).get).mono (show 1 ≤ k + 2 by exact om9 (by decide))
      rw [show isTok ps (.seq es) = false from rfl] at hq
      refine XC.def (n := k + 2) (ps := ["e", "table", "empty", "firsts"]) G (by k_is) (by k_is) rfl rfl (ar4 fun _ _ _ _ => rfl) (by decide) (by decide) (by decide) rfl rfl rfl ?_
      obtain ⟨i, j, us, rfl, hi, hj, hes⟩ := id he
      have hk' : hgts es ≤ k := Nat.le_of_succ_le_succ hk
      have hos : okEs rs tk es := ho.1
      refine XS.skip (by walk_at "tr") ?_
      refine XS.assign (by walk_at "ev") rfl (by decide) ?_
      refine XS.skip (by walk_at "tr") ?_
      refine XS.skip (Tr.or_f (by walk_at "tr") (Tr.or_f (by walk_at "tr") Tr.or_nil)) ?_
      refine XS.assign Ev.dict0 rfl (by decide) ?_
      have hi' : (H ++ [AObj.dict []])[i]? = some (.tup [.str "seq", .ref j]) := app_lt hi
      refine XS.forL (i := j) (vs := us) (by walk_at "ev") (app_lt hj) (XL.run (FO1 H rs tk "seq" k ti mi fi) (fun vs st h => ?_) (fun st h => ?_) (fun v vs st h => ?_) _ _
        ⟨es, [], _, _, hes, hk', hos, rfl, Kp.refl.app _, app_at, TokD.nil, rfl, rfl, rfl, rfl, rfl⟩)
      · obtain ⟨es', kv, H1, l, _, _, _, rfl, hK, _⟩ := h; exact hK.at hj
      · obtain ⟨es', kv, H1, l, _, _, _, rfl, hK, hd, hkv, q1, q2, q3, q4, q5⟩ := h
        exact XS.ret (v := .ref H.length) (by walk_at "ev") (by exact ⟨_, kv, rfl, hd, hkv, hK⟩)
      · obtain ⟨es', kv, H1, l, h1, h2, h3, rfl, hK, hd, hkv, q1, q2, q3, q4, q5⟩ := h
        obtain ⟨e1, es1, rfl, he1, hes1⟩ := h1.inv_cons
        replace h2 : max (hgt e1) (hgts es1) ≤ k := h2
        replace h3 : okE rs tk e1 ∧ okEs rs tk es1 := h3
        have hv := he1.kp hK Wr.nil
        obtain ⟨r, H2, hc, d, kv2, rfl, g1, g2, g3⟩ := ih e1 v H1 (hK.at hti) (hT.kp hK Wr.nil) (hK.at hmi) (hF.kp hK) (by exact om1 (by assumption)) hv h3.1
        have hd2 := g3.at hd
        have l1 := hkv.len
        have l2 := g2.len
        have hkv3 := hkv.mT (ks := kv2.map (·.1)) g2.2
        have l3 := hkv3.len
        obtain ⟨r3, H3, hc3, rfl, rfl⟩ := merge_spec (w := w) G hd2 g1 (by exact om8' (by assumption) (by assumption) (by decide)) (by exact om7 (by assumption) (by assumption) (by assumption)) (by exact om8' (by assumption) (by assumption) (by decide))
        have hc3' := hc3.mono (show 1 ≤ k + 2 by exact om9 (by decide))
        have hK3 : Kp [] H (H2.set H.length (.dict (mT kv (kv2.map (·.1))))) := (hK.trans g3).set (.inr (Nat.le_refl _))
        have hd3 : (H2.set H.length (AObj.dict (mT kv (kv2.map (·.1)))))[H.length]? = some (.dict (mT kv (kv2.map (·.1)))) := set_at hd2
        refine ⟨_, As.name rfl (by decide), ?_⟩
        refine XS.expr (st1 := ⟨H2.set H.length (.dict (mT kv (kv2.map (·.1)))), upd l "item" v⟩) (Ev.callH (by walk_at "ev") (callForm_K G (by k_is)) (EvL.cons (by walk_at "ev") (EvL.cons (Ev.callH (by walk_at "ev") (callForm_K G (by k_is)) (by walk_at "evl") hc (by intro _ _; rfl)) EvL.nil)) hc3' (by intro _ _; rfl)) ?_
        have hm := (((mbe_spec (w := w) (tv := .ref ti) G (hK3.at hmi) k e1 v (by exact om1 (by assumption)) (he1.kp hK3 Wr.nil)).get)).mono (show k + 1 ≤ k + 2 by exact Nat.le_succ _)
        cases hb : mbe (fun x => (aget em x).isSome) e1 with
        | true =>
          rw [hb] at hm
          refine XS.skip (Tr.and_t (by walk_at "tr") (Tr.and_f (by walk_at "tr"))) ?_
          exact XS.nil ⟨es1, _, _, _, hes1, by exact om2 (by assumption), h3.2, rfl, hK3, hd3, hkv3, upd_ne (by decide) q1, upd_ne (by decide) q2, upd_ne (by decide) q3, upd_ne (by decide) q4, upd_ne (by decide) q5⟩
        | false =>
          rw [hb] at hm
          refine XS.ifT (Tr.and_t (by walk_at "tr") (Tr.and_t (by walk_at "tr") Tr.and_nil)) ?_
          exact XS.ret (v := .ref H.length) (by walk_at "ev") (by exact ⟨⟨_, _, rfl, hd3, hkv3, hK3⟩, by simp⟩)
    | alt es =>
      have hq := ((is_token_spec (w := w) G hti _ he).get).mono (show 1 ≤ k + 2 by exact om9 (by decide))
      rw [show isTok ps (.alt es) = false from rfl] at hq
      refine XC.def (n := k + 2) (ps := ["e", "table", "empty", "firsts"]) G (by k_is) (by k_is) rfl rfl (ar4 fun _ _ _ _ => rfl) (by decide) (by decide) (by decide) rfl rfl rfl ?_
      obtain ⟨i, j, us, rfl, hi, hj, hes⟩ := id he
      have hk' : hgts es ≤ k := Nat.le_of_succ_le_succ hk
      have hos : okEs rs tk es := ho.1
      refine XS.skip (by walk_at "tr") ?_
      refine XS.assign (by walk_at "ev") rfl (by decide) ?_
      refine XS.skip (by walk_at "tr") ?_
      refine XS.skip (Tr.or_f (by walk_at "tr") (Tr.or_f (by walk_at "tr") Tr.or_nil)) ?_
      refine XS.assign Ev.dict0 rfl (by decide) ?_
      have hi' : (H ++ [AObj.dict []])[i]? = some (.tup [.str "alt", .ref j]) := app_lt hi
      refine XS.forL (i := j) (vs := us) (by walk_at "ev") (app_lt hj) (XL.run (FO1 H rs tk "alt" k ti mi fi) (fun vs st h => ?_) (fun st h => ?_) (fun v vs st h => ?_) _ _
        ⟨es, [], _, _, hes, hk', hos, rfl, Kp.refl.app _, app_at, TokD.nil, rfl, rfl, rfl, rfl, rfl⟩)
      · obtain ⟨es', kv, H1, l, _, _, _, rfl, hK, _⟩ := h; exact hK.at hj
      · obtain ⟨es', kv, H1, l, _, _, _, rfl, hK, hd, hkv, q1, q2, q3, q4, q5⟩ := h
        exact XS.ret (v := .ref H.length) (by walk_at "ev") (by exact ⟨_, kv, rfl, hd, hkv, hK⟩)
      · obtain ⟨es', kv, H1, l, h1, h2, h3, rfl, hK, hd, hkv, q1, q2, q3, q4, q5⟩ := h
        obtain ⟨e1, es1, rfl, he1, hes1⟩ := h1.inv_cons
        replace h2 : max (hgt e1) (hgts es1) ≤ k := h2
        replace h3 : okE rs tk e1 ∧ okEs rs tk es1 := h3
        have hv := he1.kp hK Wr.nil
        obtain ⟨r, H2, hc, d, kv2, rfl, g1, g2, g3⟩ := ih e1 v H1 (hK.at hti) (hT.kp hK Wr.nil) (hK.at hmi) (hF.kp hK) (by exact om1 (by assumption)) hv h3.1
        have hd2 := g3.at hd
        have l1 := hkv.len
        have l2 := g2.len
        have hkv3 := hkv.mT (ks := kv2.map (·.1)) g2.2
        have l3 := hkv3.len
        obtain ⟨r3, H3, hc3, rfl, rfl⟩ := merge_spec (w := w) G hd2 g1 (by exact om8' (by assumption) (by assumption) (by decide)) (by exact om7 (by assumption) (by assumption) (by assumption)) (by exact om8' (by assumption) (by assumption) (by decide))
        have hc3' := hc3.mono (show 1 ≤ k + 2 by exact om9 (by decide))
        have hK3 : Kp [] H (H2.set H.length (.dict (mT kv (kv2.map (·.1))))) := (hK.trans g3).set (.inr (Nat.le_refl _))
        have hd3 : (H2.set H.length (AObj.dict (mT kv (kv2.map (·.1)))))[H.length]? = some (.dict (mT kv (kv2.map (·.1)))) := set_at hd2
        refine ⟨_, As.name rfl (by decide), ?_⟩
        refine XS.expr (st1 := ⟨H2.set H.length (.dict (mT kv (kv2.map (·.1)))), upd l "item" v⟩) (Ev.callH (by walk_at "ev") (callForm_K G (by k_is)) (EvL.cons (by walk_at "ev") (EvL.cons (Ev.callH (by walk_at "ev") (callForm_K G (by k_is)) (by walk_at "evl") hc (by intro _ _; rfl)) EvL.nil)) hc3' (by intro _ _; rfl)) ?_
        refine XS.skip (Tr.and_f (by walk_at "tr")) ?_
        exact XS.nil ⟨es1, _, _, _, hes1, by exact om2 (by assumption), h3.2, rfl, hK3, hd3, hkv3, upd_ne (by decide) q1, upd_ne (by decide) q2, upd_ne (by decide) q3, upd_ne (by decide) q4, upd_ne (by decide) q5⟩
end

def dlen (H : List AObj) (d : Nat) : Nat := match H[d]? with | some (.dict kv) => kv.length | _ => 0
def tot (H : List AObj) : List Nat → Nat
  | [] => 0
  | d :: ds => dlen H d + tot H ds
theorem dlen_of {H : List AObj} {d : Nat} {kv : List (Str × AVal)} (h : H[d]? = some (.dict kv)) : dlen H d = kv.length := by unfold dlen; rw [h]
theorem tot_le {H H' : List AObj} : ∀ {ds : List Nat}, (∀ d ∈ ds, dlen H d ≤ dlen H' d) → tot H ds ≤ tot H' ds
  | [], _ => Nat.le_refl _
  | d :: ds, h => by
    have h1 := h d List.mem_cons_self
    have h2 := tot_le (ds := ds) fun x hx => h x (List.mem_cons_of_mem _ hx)
    simp only [tot]; exact Nat.add_le_add (by assumption) (by assumption)
theorem tot_lt {H H' : List AObj} : ∀ {ds : List Nat}, (∀ d ∈ ds, dlen H d ≤ dlen H' d) → (∃ d ∈ ds, dlen H d < dlen H' d) → tot H ds < tot H' ds
  | [], _, ⟨_, h, _⟩ => by simp at h
  | d :: ds, h, ⟨e, he, hlt⟩ => by
    have h1 := h d List.mem_cons_self
    have h2 := tot_le (ds := ds) fun x hx => h x (List.mem_cons_of_mem _ hx)
    simp only [tot]
    rcases List.mem_cons.mp he with rfl | he
    · exact Nat.add_lt_add_of_lt_of_le (by assumption) (by assumption)
    · have h3 := tot_lt (ds := ds) (fun x hx => h x (List.mem_cons_of_mem _ hx)) ⟨e, he, hlt⟩
      exact Nat.add_lt_add_of_le_of_lt (by assumption) (by assumption)
theorem tot_bound {H : List AObj} {b : Nat} : ∀ {ds : List Nat}, (∀ d ∈ ds, dlen H d ≤ b) → tot H ds ≤ b * ds.length
  | [], _ => Nat.zero_le _
  | d :: ds, h => by
    have h1 := h d List.mem_cons_self
    have h2 := tot_bound (ds := ds) fun x hx => h x (List.mem_cons_of_mem _ hx)
    simp only [tot, List.length_cons, Nat.mul_succ]; omega

structure Rows (H : List AObj) (names tk : List Str) (D : Nat) (rows : List (Str × AVal)) (ds : List Nat) : Prop where
  at_ : H[D]? = some (.dict rows)
  cov : ∀ x ∈ names, ∃ d ∈ ds, aget rows x = some (.ref d)
  row : ∀ d ∈ ds, D < d ∧ ∃ kv, H[d]? = some (.dict kv) ∧ TokD tk kv
theorem Rows.kp {H H' : List AObj} {names tk : List Str} {D : Nat} {rows : List (Str × AVal)} {ds : List Nat} (h : Rows H names tk D rows ds) (a : Kp [] H H') : Rows H' names tk D rows ds :=
  ⟨a.at h.at_, h.cov, fun d hd => let ⟨h1, kv, h2, h3⟩ := h.row d hd; ⟨h1, kv, a.at h2, h3⟩⟩
theorem Rows.set {H : List AObj} {names tk : List Str} {D : Nat} {rows : List (Str × AVal)} {ds : List Nat} (h : Rows H names tk D rows ds) {d : Nat} (hd : d ∈ ds) {kv : List (Str × AVal)} (hk : TokD tk kv) : Rows (H.set d (.dict kv)) names tk D rows ds := by
  obtain ⟨h1, kv0, h2, h3⟩ := h.row d hd
  refine ⟨set_ne (by exact Nat.ne_of_gt (by assumption)) h.at_, h.cov, fun e he => ?_⟩
  obtain ⟨g1, kv1, g2, g3⟩ := h.row e he
  refine ⟨g1, ?_⟩
  by_cases hde : d = e
  · subst hde; exact ⟨kv, set_at h2, hk⟩
  · exact ⟨kv1, set_ne hde g2, g3⟩
theorem Rows.totkp {H H' : List AObj} {names tk : List Str} {D : Nat} {rows : List (Str × AVal)} {ds : List Nat} (h : Rows H names tk D rows ds) (a : Kp [] H H') : tot H ds ≤ tot H' ds :=
  tot_le fun d hd => by
    obtain ⟨_, kv, h2, _⟩ := h.row d hd
    rw [dlen_of h2, dlen_of (a.at h2)]; exact Nat.le_refl _
theorem dlen_set {H : List AObj} {d e : Nat} {kv kv' : List (Str × AVal)} (h : H[d]? = some (.dict kv)) (hl : kv.length ≤ kv'.length) : dlen H e ≤ dlen (H.set d (.dict kv')) e := by
  by_cases hde : d = e
  · subst hde
    rw [dlen_of h, dlen_of (set_at h)]; exact hl
  · unfold dlen
    rw [List.getElem?_set_ne hde]; exact Nat.le_refl _
theorem tot_set {H : List AObj} {ds : List Nat} {d : Nat} {kv kv' : List (Str × AVal)} (h : H[d]? = some (.dict kv)) (hl : kv.length ≤ kv'.length) : tot H ds ≤ tot (H.set d (.dict kv')) ds := tot_le fun _ _ => dlen_set h hl
theorem tot_set_lt {H : List AObj} {ds : List Nat} {d : Nat} {kv kv' : List (Str × AVal)} (h : H[d]? = some (.dict kv)) (hd : d ∈ ds) (hl : kv.length < kv'.length) : tot H ds < tot (H.set d (.dict kv')) ds :=
  tot_lt (fun _ _ => dlen_set h (by exact Nat.le_of_lt (by assumption))) ⟨d, hd, by rw [dlen_of h, dlen_of (set_at h)]; exact hl⟩
theorem Rows.bound {H : List AObj} {names tk : List Str} {D : Nat} {rows : List (Str × AVal)} {ds : List Nat} (h : Rows H names tk D rows ds) : tot H ds ≤ tk.length * ds.length :=
  tot_bound fun d hd => by
    obtain ⟨_, kv, h2, h3⟩ := h.row d hd
    rw [dlen_of h2]; exact h3.len

section
variable {w : World} {b₀ : Heap} {n : Nat} {P : Params} {H : List AObj}

inductive FR1 (H : List AObj) (nm tk : List Str) (ti oi mi : Nat) (vs : List AVal) (st : ASt) : Prop
  | mk : ∀ (rem : List Str) (ds : List Nat) (rows : List (Str × AVal)) (H1 : List AObj) (l : Str → Option AVal), vs = rem.map AVal.str → (∀ x ∈ rem, x ∈ nm) → st = ⟨H1, l⟩ → Kp [] H H1 → H1[H.length]? = some (.dict rows) →
    (∀ x ∈ nm, x ∉ rem → ∃ d ∈ ds, aget rows x = some (.ref d)) → (∀ d ∈ ds, H.length < d ∧ ∃ kv, H1[d]? = some (.dict kv) ∧ TokD tk kv) → TokD nm rows → l "firsts" = some (.ref H.length) → l "table" = some (.ref ti) → l "order" = some (.ref oi) → l "empty" = some (.ref mi) → FR1 H nm tk ti oi mi vs st
inductive FR2 (H : List AObj) (nm tk : List Str) (rows : List (Str × AVal)) (ds : List Nat) (ti oi mi : Nat) (m : Nat) (st : ASt) : Prop
  | mk : ∀ (g : Bool) (H1 : List AObj) (l : Str → Option AVal), st = ⟨H1, l⟩ → Kp [] H H1 → Rows H1 nm tk H.length rows ds → l "grown" = some (.bool g) → m = 2 * (tk.length * ds.length - tot H1 ds) + (if g then 1 else 0) → l "firsts" = some (.ref H.length) → l "table" = some (.ref ti) → l "order" = some (.ref oi) → l "empty" = some (.ref mi) → FR2 H nm tk rows ds ti oi mi m st
inductive FR3 (H H1 : List AObj) (nm tk : List Str) (rows : List (Str × AVal)) (ds : List Nat) (ti oi mi : Nat) (vs : List AVal) (st : ASt) : Prop
  | mk : ∀ (rem : List Str) (g2 : Bool) (H2 : List AObj) (l : Str → Option AVal), vs = rem.map AVal.str → (∀ x ∈ rem, x ∈ nm) → st = ⟨H2, l⟩ → Kp [] H H2 → Rows H2 nm tk H.length rows ds → l "grown" = some (.bool g2) → tot H1 ds ≤ tot H2 ds → (g2 = true → tot H1 ds < tot H2 ds) → l "firsts" = some (.ref H.length) → l "table" = some (.ref ti) → l "order" = some (.ref oi) → l "empty" = some (.ref mi) → FR3 H H1 nm tk rows ds ti oi mi vs st
inductive FRP (H : List AObj) (rs : List (Str × E)) (tk : List Str) (r : AVal) (H' : List AObj) : Prop
  | mk : r = .ref H.length → Kp [] H H' → Rw H' rs tk H.length → FRP H rs tk r H'
theorem first_rows_spec {rs : List (Str × E)} {tk : List Str} {ti oi mi : Nat} {em : List (Str × AVal)} (G : Glo (hd.heap_39 P) b₀) (T : Tb H rs ti oi) (hk10 : tk.length ≤ 10) (hmi : H[mi]? = some (.dict em)) (hok : ∀ x e, eget rs x = some e → okE rs tk e) :
    XC w b₀ 5 (.val (.ref 105)) [.ref ti, .ref oi, .ref mi] H (FRP H rs tk) := by
  obtain ⟨ps, hti, hps⟩ := T.tab
  have hoi := T.ord
  refine XC.def (n := 4) (ps := ["table", "order", "empty"]) G (by k_is) (by k_is) rfl rfl (ar3 fun _ _ _ => rfl) (by decide) (by decide) (by decide) rfl rfl rfl ?_
  refine XS.assign Ev.dict0 rfl (by decide) ?_
  refine XS.forL (i := oi) (vs := (rs.map (·.1)).map .str) (by walk_at "ev") (app_lt hoi) (XL.run (FR1 H (rs.map (·.1)) tk ti oi mi)
    (fun vs st h => ?_) (fun st h => ?_) (fun v vs st h => ?_) _ _ ⟨rs.map (·.1), [], [], _, _, rfl, fun _ h => h, rfl, Kp.refl.app _, app_at, fun x hx hn => absurd hx hn, by simp, TokD.nil, rfl, rfl, rfl, rfl⟩)
  · obtain ⟨rem, ds, rows, H1, l, _, _, rfl, hK, _⟩ := h; exact hK.at hoi
  rotate_left
  · obtain ⟨rem, ds, rows, H1, l, hv, hr, rfl, hK, hD, hcov, hrow, hTr, q0, q1, q2, q3⟩ := h
    replace hv := cons_map hv
    obtain ⟨x, rem, rfl, rfl, rfl⟩ := hv
    have hlr : rows.length ≤ rs.length := by have := hTr.len; simpa using this
    have hsm := T.small
    refine ⟨_, As.name rfl (by decide), ?_⟩
    have hD' : (H1 ++ [AObj.dict []])[H.length]? = some (.dict rows) := app_lt hD
    have hltD := lt_of_at hD
    refine XS.next (Ex.setItem (v1 := .ref H1.length) Ev.dict0 (by walk_at "ev") (by walk_at "ev") (op_setD hD' (by exact om8' (by assumption) (by assumption) (by decide)))) ?_
    refine XS.nil ?_
    dsimp only [Turn]
    refine ⟨rem, H1.length :: ds, aput rows x (.ref H1.length), _, _, rfl, fun y hy => hr y (List.mem_cons_of_mem _ hy), rfl, (hK.app _).set (.inr (Nat.le_refl _)), set_at hD', fun y hy hny => ?_, fun d hd => ?_, hTr.put (hr x List.mem_cons_self), upd_ne (by decide) q0, upd_ne (by decide) q1, upd_ne (by decide) q2, upd_ne (by decide) q3⟩
    · rw [aget_aput]
      by_cases hyx : y = x
      · rw [if_pos hyx]; exact ⟨_, List.mem_cons_self, rfl⟩
      · rw [if_neg hyx]
        obtain ⟨d, hd, e⟩ := hcov y hy (by simp [hyx, hny])
        exact ⟨d, List.mem_cons_of_mem _ hd, e⟩
    · rcases List.mem_cons.mp hd with rfl | hd
      · exact ⟨hltD, [], set_ne (by exact Nat.ne_of_lt (by assumption)) app_at, TokD.nil⟩
      · obtain ⟨g1, kv, g2, g3⟩ := hrow d hd
        exact ⟨g1, kv, set_ne (by exact Nat.ne_of_lt (by assumption)) (app_lt g2), g3⟩
  obtain ⟨rem, ds, rows, H1, l, hv, hr, rfl, hK, hD, hcov, hrow, hTr, q0, q1, q2, q3⟩ := h
  obtain rfl := nil_map hv
  have hR0 : Rows H1 (rs.map (·.1)) tk H.length rows ds := ⟨hD, fun x hx => hcov x hx (by simp), hrow⟩
  clear hcov hrow hD hv hr
  refine XS.assign (by walk_at "ev") rfl (by decide) ?_
  refine XS.while_ (FR2 H (rs.map (·.1)) tk rows ds ti oi mi)
    (fun m st h => ?_) _ ⟨true, _, _, rfl, hK, hR0, upd_eq, rfl, upd_ne (by decide) q0, upd_ne (by decide) q1, upd_ne (by decide) q2, upd_ne (by decide) q3⟩
  clear hK hR0 q0 q1 q2 q3
  obtain ⟨g, H1, l, rfl, hK, hR, h4, hm, q0, q1, q2, q3⟩ := h
  cases g with
  | false =>
    refine .inl ⟨_, by walk_at "tr", ?_⟩
    exact XS.ret (v := .ref H.length) (by walk_at "ev") (by
      refine ⟨rfl, hK, rows, hR.at_, fun x hx => ?_⟩
      obtain ⟨d, hd, e⟩ := hR.cov x hx
      obtain ⟨_, kv, g1, g2⟩ := hR.row d hd
      exact ⟨d, kv, e, g1, g2⟩)
  | true =>
    refine .inr ⟨_, by walk_at "tr", ?_⟩
    refine XS.assign (by walk_at "ev") rfl (by decide) ?_
    refine XS.forL (i := oi) (vs := (rs.map (·.1)).map .str) (by walk_at "ev") (hK.at hoi) (XL.run (FR3 H H1 (rs.map (·.1)) tk rows ds ti oi mi)
      (fun vs st h => ?_) (fun st h => ?_) (fun v vs st h => ?_) _ _ ⟨rs.map (·.1), false, _, _, rfl, fun _ h => h, rfl, hK, hR, upd_eq, Nat.le_refl _, fun h => (by cases h), upd_ne (by decide) q0, upd_ne (by decide) q1, upd_ne (by decide) q2, upd_ne (by decide) q3⟩)
    · obtain ⟨rem, g2, H2, l, _, _, rfl, hK, _⟩ := h; exact hK.at hoi
    · obtain ⟨rem, g2, H2, l2, hv, hr, rfl, hK2, hR2, h42, hle, hlt, q0, q1, q2, q3⟩ := h
      have hb1 := hR2.bound
      refine XS.nil ⟨_, ?_, g2, H2, l2, rfl, hK2, hR2, h42, rfl, q0, q1, q2, q3⟩
      cases g2 with
      | true => have := hlt rfl; subst hm; simp only [if_true]; exact om11 (by assumption) (by assumption)
      | false => subst hm; simp; exact om12 (by assumption) (by assumption)
    · obtain ⟨rem, g2, H2, l2, hv, hr, rfl, hK2, hR2, h42, hle, hlt, q0, q1, q2, q3⟩ := h
      replace hv := cons_map hv
      obtain ⟨x, rem, rfl, rfl, rfl⟩ := hv
      refine ⟨_, As.name rfl (by decide), ?_⟩
      have hxm : x ∈ rs.map (·.1) := hr x List.mem_cons_self
      obtain ⟨ex, hex⟩ := eget_key.mpr hxm
      obtain ⟨vx, hvx, hvE⟩ := hps.some hex
      obtain ⟨d1, hd1, hrd1⟩ := hR2.cov x hxm
      obtain ⟨hlt1, kv1, hkv1, htk1⟩ := hR2.row d1 hd1
      have hDat := hR2.at_
      have hRw : Rw H2 rs tk H.length := ⟨rows, hR2.at_, fun y hy => by
        obtain ⟨d, hd, e⟩ := hR2.cov y hy
        obtain ⟨_, kv, g1, g2⟩ := hR2.row d hd
        exact ⟨d, kv, e, g1, g2⟩⟩
      have hti2 := hK2.at hti
      obtain ⟨r, H3, hc, d2, kv2, rfl, f1, f2, f3⟩ := first_of_spec (w := w) G hk10 2 ex vx H2 hti2 (hps.kp hK2 Wr.nil) (hK2.at hmi) hRw (T.low x ex hex) (hvE.kp hK2 Wr.nil) (hok x ex hex)
      have hR3 := hR2.kp f3
      have hK3 := hK2.trans f3
      have hkv3 := f3.at hkv1
      have l1 := htk1.len
      have l2' := f2.len
      have htk3 := htk1.mT (ks := kv2.map (·.1)) f2.2
      have l3 := htk3.len
      obtain ⟨r3, H4, hc3, rfl, rfl⟩ := merge_spec (w := w) G hkv3 f1 (by exact om8' (by assumption) (by assumption) (by decide)) (by exact om7 (by assumption) (by assumption) (by assumption)) (by exact om8' (by assumption) (by assumption) (by decide))
      have hc3' := hc3.mono (show 1 ≤ 4 by decide)
      have hK4 : Kp [] H (H3.set d1 (.dict (mT kv1 (kv2.map (·.1))))) := hK3.set (.inr (by exact Nat.le_of_lt (by assumption)))
      have hR4 := hR3.set hd1 htk3
      have ht3 := hR2.totkp f3
      have hge := mT_len_ge (ks := kv2.map (·.1)) (T := kv1)
      have ht4 := tot_set (ds := ds) hkv3 hge
      cases hb : decide (((mT kv1 (kv2.map (·.1))).length : Int) > (kv1.length : Int)) with
      | true =>
        rw [hb] at hc3'
        have hgt : kv1.length < (mT kv1 (kv2.map (·.1))).length := by have := of_decide_eq_true hb; omega
        have ht5 := tot_set_lt (ds := ds) hkv3 hd1 hgt
        refine XS.ifT (st1 := ⟨H3.set d1 (.dict (mT kv1 (kv2.map (·.1)))), upd l2 "name" (.str x)⟩) (Tr.valb (Ev.callH (H := H3) (by walk_at "ev") (callForm_K G (by k_is)) (EvL.cons (Ev.subD (by walk_at "ev") (by walk_at "ev") hDat hrd1 hs_n) (EvL.cons (Ev.callH (by walk_at "ev") (callForm_K G (by k_is)) (EvL.cons (Ev.subD (by walk_at "ev") (by walk_at "ev") hti2 hvx hs_n) (by walk_at "evl")) hc (by intro _ _; rfl)) EvL.nil)) hc3' (by intro _ _; rfl))) ?_
        refine XS.assign (by walk_at "ev") rfl (by decide) ?_
        refine XS.nil ⟨XS.nil ?_, by simp⟩
        dsimp only [Turn]
        exact ⟨rem, true, _, _, rfl, fun y hy => hr y (List.mem_cons_of_mem _ hy), rfl, hK4, hR4, upd_eq, by exact om15 (by assumption) (by assumption) (by assumption), fun _ => by exact om16 (by assumption) (by assumption) (by assumption), upd_ne (by decide) (upd_ne (by decide) q0), upd_ne (by decide) (upd_ne (by decide) q1), upd_ne (by decide) (upd_ne (by decide) q2), upd_ne (by decide) (upd_ne (by decide) q3)⟩
      | false =>
        rw [hb] at hc3'
        refine XS.skip (st1 := ⟨H3.set d1 (.dict (mT kv1 (kv2.map (·.1)))), upd l2 "name" (.str x)⟩) (Tr.valb (Ev.callH (H := H3) (by walk_at "ev") (callForm_K G (by k_is)) (EvL.cons (Ev.subD (by walk_at "ev") (by walk_at "ev") hDat hrd1 hs_n) (EvL.cons (Ev.callH (by walk_at "ev") (callForm_K G (by k_is)) (EvL.cons (Ev.subD (by walk_at "ev") (by walk_at "ev") hti2 hvx hs_n) (by walk_at "evl")) hc (by intro _ _; rfl)) EvL.nil)) hc3' (by intro _ _; rfl))) ?_
        refine XS.nil ?_
        dsimp only [Turn]
        exact ⟨rem, g2, _, _, rfl, fun y hy => hr y (List.mem_cons_of_mem _ hy), rfl, hK4, hR4, upd_ne (by decide) h42, by exact om15 (by assumption) (by assumption) (by assumption), fun e => by have := hlt e; exact om15 (by assumption) (by assumption) (by assumption), upd_ne (by decide) q0, upd_ne (by decide) q1, upd_ne (by decide) q2, upd_ne (by decide) q3⟩
end

section
variable {w : World} {b₀ : Heap} {n : Nat} {P : Params} {H : List AObj}

theorem gcls (P : Params) : ∃ cd, PlainCls (hd.heap_39 P) 73 cd := ⟨_, by k_is, by rfl, by k_is, by k_is, by k_is, by k_is⟩

/-- the grammar's object, as far as its methods ask -/
structure Gi (H : List AObj) (rs : List (Str × E)) (tk : List Str) (gi di ti mi fi : Nat) (kvs ps em : List (Str × AVal)) : Prop where
  inst : H[gi]? = some (.inst 73 di)
  ns : H[di]? = some (.ns kvs)
  atab : aget kvs "table" = some (.ref ti)
  aemp : aget kvs "empty" = some (.ref mi)
  afir : aget kvs "firsts" = some (.ref fi)
  n1 : aget kvs "nullable" = none
  n2 : aget kvs "first" = none
  n3 : aget kvs "predict" = none
  tab : H[ti]? = some (.dict ps)
  isT : IsT H rs ps
  emp : H[mi]? = some (.dict em)
  rw : Rw H rs tk fi
theorem Gi.kp {H H' : List AObj} {rs : List (Str × E)} {tk : List Str} {gi di ti mi fi : Nat} {kvs ps em : List (Str × AVal)} (g : Gi H rs tk gi di ti mi fi kvs ps em) (a : Kp [] H H') : Gi H' rs tk gi di ti mi fi kvs ps em :=
  ⟨a.at g.inst, a.at g.ns, g.atab, g.aemp, g.afir, g.n1, g.n2, g.n3, a.at g.tab, g.isT.kp a Wr.nil, a.at g.emp, g.rw.kp a⟩

section
variable {rs : List (Str × E)} {tk : List Str} {gi di ti mi fi : Nat} {kvs ps em : List (Str × AVal)}

theorem nullable_spec (G : Glo (hd.heap_39 P) b₀) (inst : H[gi]? = some (.inst 73 di)) (ns : H[di]? = some (.ns kvs)) (atab : aget kvs "table" = some (.ref ti)) (aemp : aget kvs "empty" = some (.ref mi)) (emp : H[mi]? = some (.dict em)) {e : E} {v : AVal} (hk : hgt e ≤ 2) (he : IsE H e v) :
    XC w b₀ 4 (.val (.ref 56)) [.ref gi, v] H (Fix (.bool (mbe (hasK em) e)) H) := by
  obtain ⟨cd, PC⟩ := gcls P
  have hc := (mbe_spec (w := w) (tv := .ref ti) G emp 2 e v hk he).get
  refine XC.def (n := 3) (ps := ["self", "e"]) G (by k_is) (by k_is) rfl rfl (ar2 fun _ _ => rfl) (by decide) (by decide) (by decide) rfl rfl rfl ?_
  exact XS.ret (v := .bool (mbe (hasK em) e)) (by walk_at "ev") (by exact ⟨rfl, rfl⟩)

theorem first_spec (G : Glo (hd.heap_39 P) b₀) (hk10 : tk.length ≤ 10) (I : Gi H rs tk gi di ti mi fi kvs ps em) {e : E} {v : AVal} (hk : hgt e ≤ 2) (he : IsE H e v) (ho : okE rs tk e) :
    XC w b₀ 5 (.val (.ref 63)) [.ref gi, v] H fun r H' => ∃ d kv, r = .ref d ∧ H'[d]? = some (.dict kv) ∧ TokD tk kv ∧ Kp [] H H' ∧ H.length ≤ d := by
  obtain ⟨cd, PC⟩ := gcls P
  obtain ⟨inst, ns, atab, aemp, afir, n1, n2, n3, tab, isT, emp, rw⟩ := I
  obtain ⟨r, H1, hc, d, kv, rfl, h1, h2, h3⟩ := first_of_spec (w := w) G hk10 2 e v H tab isT emp rw hk he ho
  have hl := h2.len
  have hcd := call_dict (n := 4) (w := w) G h1 (by exact om8' (by assumption) (by assumption) (by decide))
  refine XC.def (n := 4) (ps := ["self", "e"]) G (by k_is) (by k_is) rfl rfl (ar2 fun _ _ => rfl) (by decide) (by decide) (by decide) rfl rfl rfl ?_
  refine XS.ret (v := .ref H1.length) (Ev.callH (H := H1) (by walk_at "ev") callForm_T (EvL.cons (by walk_at "ev") EvL.nil) hcd (by intro _ _; rfl)) ?_
  exact ⟨_, kv, rfl, app_at, h2, h3.app _, h3.len⟩

theorem predict_spec (G : Glo (hd.heap_39 P) b₀) (hk10 : tk.length ≤ 10) (I : Gi H rs tk gi di ti mi fi kvs ps em) {e : E} {v : AVal} (hk : hgt e ≤ 2) (he : IsE H e v) (ho : okE rs tk e) {ai : Nat} {av : List (Str × AVal)} (ha : H[ai]? = some (.dict av)) (hav : TokD tk av) :
    XC w b₀ 6 (.val (.ref 70)) [.ref gi, v, .ref ai] H fun r H' => ∃ d kv, r = .ref d ∧ H'[d]? = some (.dict kv) ∧ TokD tk kv ∧ Kp [] H H' := by
  obtain ⟨cd, PC⟩ := gcls P
  obtain ⟨r, H1, hc, d, kv, rfl, h1, h2, h3, h4⟩ := first_spec (w := w) G hk10 I hk he ho
  have I1 := I.kp h3
  have hn := ((nullable_spec (w := w) G I1.inst I1.ns I1.atab I1.aemp I1.emp hk (he.kp h3 Wr.nil)).get).mono (show 4 ≤ 5 by decide)
  have ha1 := h3.at ha
  have l1 := h2.len
  have l2 := hav.len
  have hT := h2.mT (ks := av.map (·.1)) hav.2
  have l3 := hT.len
  obtain ⟨r3, H3, hc3, rfl, rfl⟩ := merge_spec (w := w) G h1 ha1 (by exact om8' (by assumption) (by assumption) (by decide)) (by exact om7 (by assumption) (by assumption) (by assumption)) (by exact om8' (by assumption) (by assumption) (by decide))
  have hc3' := hc3.mono (show 1 ≤ 5 by decide)
  have i0 := I.inst
  have i1 := I.ns
  have i2 := I.n2
  have j0 := I1.inst
  have j1 := I1.ns
  have j2 := I1.n1
  refine XC.def (n := 5) (ps := ["self", "e", "after"]) G (by k_is) (by k_is) rfl rfl (ar3 fun _ _ _ => rfl) (by decide) (by decide) (by decide) rfl rfl rfl ?_
  refine XS.assign (Ev.meth (H' := H1) G PC (by walk_at "ev") i0 i1 (by k_is) (by k_is) (by k_is) i2 (by walk_at "evl") hc (by intro _ _; rfl) (fun _ => rfl)) rfl (by decide) ?_
  cases hb : mbe (hasK em) e with
  | true =>
    rw [hb] at hn
    refine XS.ifT (Tr.valb (Ev.meth (H' := H1) G PC (by walk_at "ev") j0 j1 (by k_is) (by k_is) (by k_is) j2 (by walk_at "evl") hn (by intro _ _; rfl) (fun _ => rfl))) ?_
    refine XS.expr (Ev.callH (H := H1) (by walk_at "ev") (callForm_K G (by k_is)) (by walk_at "evl") hc3' (by intro _ _; rfl)) ?_
    refine XS.nil ⟨?_, by simp⟩
    exact XS.ret (v := .ref d) (by walk_at "ev") (by exact ⟨d, _, rfl, set_at h1, hT, h3.set (.inr h4)⟩)
  | false =>
    rw [hb] at hn
    refine XS.skip (Tr.valb (Ev.meth (H' := H1) G PC (by walk_at "ev") j0 j1 (by k_is) (by k_is) (by k_is) j2 (by walk_at "evl") hn (by intro _ _; rfl) (fun _ => rfl))) ?_
    exact XS.ret (v := .ref d) (by walk_at "ev") (by exact ⟨d, _, rfl, h1, h2, h3⟩)
end
end

section
variable {w : World} {b₀ : Heap} {n : Nat} {P : Params} {H : List AObj}

def Beh (H : List AObj) (tk : List Str) (b : Nat) : Prop := ∃ kv, H[b]? = some (.dict kv) ∧ TokD tk kv
theorem Beh.kp {H H' : List AObj} {tk : List Str} {b : Nat} (h : Beh H tk b) (a : Kp [] H H') : Beh H' tk b := let ⟨kv, h1, h2⟩ := h; ⟨kv, a.at h1, h2⟩
def IsPs (H0 H : List AObj) (tk : List Str) : List E → List AVal → Prop
  | [], [] => True
  | e :: es, v :: vs => (∃ i u b, v = .ref i ∧ H[i]? = some (.tup [u, .ref b]) ∧ IsE H0 e u ∧ Beh H tk b) ∧ IsPs H0 H tk es vs
  | _, _ => False
theorem IsPs.ind {H0 H : List AObj} {tk : List Str} {P : List E → List AVal → Prop} (h0 : P [] []) (h1 : ∀ e es v vs, (∃ i u b, v = .ref i ∧ H[i]? = some (.tup [u, .ref b]) ∧ IsE H0 e u ∧ Beh H tk b) → IsPs H0 H tk es vs → P es vs → P (e :: es) (v :: vs)) : ∀ {es : List E} {vs : List AVal}, IsPs H0 H tk es vs → P es vs := by
  intro es
  induction es with
  | nil => intro vs h; cases vs with | nil => exact h0 | cons _ _ => exact False.elim h
  | cons e es ih => intro vs h; cases vs with | nil => exact False.elim h | cons v vs => exact h1 _ _ _ _ h.1 h.2 (ih h.2)
theorem IsPs.mono {H0 H H' : List AObj} {tk : List Str} (ht : ∀ (i : Nat) (us : List AVal), H[i]? = some (AObj.tup us) → H'[i]? = some (AObj.tup us)) (hb : ∀ b : Nat, Beh H tk b → Beh H' tk b) {es : List E} {vs : List AVal} (h : IsPs H0 H tk es vs) : IsPs H0 H' tk es vs :=
  h.ind (P := IsPs H0 H' tk) trivial fun _ _ _ _ ⟨i, u, b, h1, h2, h3, h4⟩ _ ih => ⟨⟨i, u, b, h1, ht _ _ h2, h3, hb _ h4⟩, ih⟩
theorem IsPs.snoc {H0 H : List AObj} {tk : List Str} {e : E} {v : AVal} (h : IsPs H0 H tk [e] [v]) {es : List E} {vs : List AVal} (hh : IsPs H0 H tk es vs) : IsPs H0 H tk (es ++ [e]) (vs ++ [v]) :=
  hh.ind (P := fun es vs => IsPs H0 H tk (es ++ [e]) (vs ++ [v])) h fun _ _ _ _ a _ ih => ⟨a, ih⟩
theorem IsPs.reverse {H0 H : List AObj} {tk : List Str} {es : List E} {vs : List AVal} (h : IsPs H0 H tk es vs) : IsPs H0 H tk es.reverse vs.reverse :=
  h.ind (P := fun es vs => IsPs H0 H tk es.reverse vs.reverse) trivial fun _ _ _ _ a _ ih => by
    rw [List.reverse_cons, List.reverse_cons]; exact IsPs.snoc ⟨a, trivial⟩ ih
theorem IsPs.inv_cons {H0 H : List AObj} {tk : List Str} {v : AVal} {vs : List AVal} {es : List E} (h : IsPs H0 H tk es (v :: vs)) : ∃ e es', es = e :: es' ∧ (∃ i u b, v = .ref i ∧ H[i]? = some (.tup [u, .ref b]) ∧ IsE H0 e u ∧ Beh H tk b) ∧ IsPs H0 H tk es' vs := by
  cases es with | nil => exact False.elim h | cons e es => exact ⟨e, es, rfl, h.1, h.2⟩
theorem IsEs.snoc {H : List AObj} {e : E} {v : AVal} (h : IsE H e v) {es : List E} {vs : List AVal} (hh : IsEs H es vs) : IsEs H (es ++ [e]) (vs ++ [v]) :=
  hh.ind (P := fun es vs => IsEs H (es ++ [e]) (vs ++ [v])) ⟨h, trivial⟩ fun _ _ _ _ a _ ih => ⟨a, ih⟩
theorem IsEs.reverse {H : List AObj} {es : List E} {vs : List AVal} (h : IsEs H es vs) : IsEs H es.reverse vs.reverse :=
  h.ind (P := fun es vs => IsEs H es.reverse vs.reverse) trivial fun _ _ _ _ a _ ih => by
    rw [List.reverse_cons, List.reverse_cons]; exact IsEs.snoc a ih
theorem okEs_all {rs : List (Str × E)} {tk : List Str} : ∀ {es : List E}, okEs rs tk es → ∀ e ∈ es, okE rs tk e
  | e :: es, h, e', he => by
    rcases List.mem_cons.mp he with rfl | he
    · exact h.1
    · exact okEs_all h.2 e' he

section
variable {rs : List (Str × E)} {tk : List Str} {gi di ti mi fi : Nat} {kvs ps em : List (Str × AVal)}

inductive PT1 (H : List AObj) (tk : List Str) (es : List E) (gi i : Nat) (vs : List AVal) (st : ASt) : Prop
  | mk : ∀ (es1 es2 : List E) (ts : List AVal) (bi : Nat) (H1 : List AObj) (l : Str → Option AVal), IsEs H es1 vs → (∀ e ∈ es1, e ∈ es) → (∀ e ∈ es2, e ∈ es) → IsPs H H1 tk es2 ts → st = ⟨H1, l⟩ → Kp [] H H1 → H1[H.length]? = some (.list ts) → Beh H1 tk bi → ts.length + vs.length ≤ 10 →
    l "behind" = some (.ref bi) → l "found" = some (.ref H.length) → l "grammar" = some (.ref gi) → l "e" = some (.ref i) → PT1 H tk es gi i vs st
inductive PTP (H : List AObj) (tk : List Str) (es : List E) (r : AVal) (H' : List AObj) : Prop
  | mk : ∀ (f : Nat) (ts : List AVal) (es2 : List E), r = .ref f → H'[f]? = some (.list ts) → IsPs H H' tk es2 ts → (∀ e ∈ es2, e ∈ es) → ts.length ≤ 10 → Kp [] H H' → PTP H tk es r H'
theorem parts_spec (G : Glo (hd.heap_39 P) b₀) (hk10 : tk.length ≤ 10) (I : Gi H rs tk gi di ti mi fi kvs ps em) {tag : Str} {i j ai : Nat} {us : List AVal} {es : List E} (hi : H[i]? = some (.tup [.str tag, .ref j])) (hj : H[j]? = some (.list us)) (hes : IsEs H es us) (hk : hgts es ≤ 2) (ho : okEs rs tk es) (hlen : es.length ≤ 10) (ha : Beh H tk ai) :
    XC w b₀ 7 (.val (.ref 126)) [.ref gi, .ref i, .ref ai] H (PTP H tk es) := by
  obtain ⟨cd, PC⟩ := gcls P
  have hul : us.length = es.length := hes.length
  refine XC.def (n := 6) (ps := ["grammar", "e", "after"]) G (by k_is) (by k_is) rfl rfl (ar3 fun _ _ _ => rfl) (by decide) (by decide) (by decide) rfl rfl rfl ?_
  refine XS.assign (Ev.list EvL.nil (by simp)) rfl (by decide) ?_
  refine XS.assign (by walk_at "ev") rfl (by decide) ?_
  have hi0 : (H ++ [AObj.list []])[i]? = some (.tup [.str tag, .ref j]) := app_lt hi
  refine XS.for_ (P := protR w b₀ j us) (Src.rev (by walk_at "ev") (by walk_at "ev") (app_lt hj)) (XL.run (PT1 H tk es gi i)
    (fun vs st h => ?_) (fun st h => ?_) (fun v vs st h => ?_) _ _ ⟨es.reverse, [], [], ai, _, _, hes.reverse, fun e he => List.mem_reverse.mp he, fun e he => by simp at he, trivial, rfl, Kp.refl.app _, app_at, ha.kp (Kp.refl.app _), by show _ + us.reverse.length ≤ 10; rw [List.length_reverse]; simp; omega, rfl, rfl, rfl, rfl⟩)
  · obtain ⟨es1, es2, ts, bi, H1, l, _, _, _, _, rfl, hK, _⟩ := h; exact hK.at hj
  · obtain ⟨es1, es2, ts, bi, H1, l, _, _, h2, h3, rfl, hK, hf, hb, hn, q1, q2, q3, q4⟩ := h
    refine XS.expr (Ev.reverse (by walk_at "ev") hf (by simp at hn; exact Nat.le_trans (by assumption) (by decide)) (fun _ => rfl)) ?_
    refine XS.ret (v := .ref H.length) (by walk_at "ev") ?_
    refine ⟨H.length, ts.reverse, es2.reverse, rfl, set_at hf, (h3.mono (fun a us e => ?_) (fun b hb => ?_)).reverse, fun e he => h2 e (List.mem_reverse.mp he), by rw [List.length_reverse]; simp at hn; assumption, hK.set (.inr (Nat.le_refl _))⟩
    · exact set_ne (by rintro rfl; rw [hf] at e; cases e) e
    · obtain ⟨kv, g1, g2⟩ := hb
      exact ⟨kv, set_ne (by rintro rfl; rw [hf] at g1; cases g1) g1, g2⟩
  · obtain ⟨es1, es2, ts, bi, H1, l, h1, h1', h2, h3, rfl, hK, hf, hb, hn, q1, q2, q3, q4⟩ := h
    obtain ⟨e1, es1, rfl, he1, hes1⟩ := h1.inv_cons
    have he1m : e1 ∈ es := h1' e1 List.mem_cons_self
    simp only [List.length_cons] at hn
    refine ⟨_, As.name rfl (by decide), ?_⟩
    refine' XS.expr (Ev.append (v := .ref H1.length) (st1 := ⟨H1, upd l "item" v⟩) (st2 := ⟨H1 ++ [AObj.tup [v, .ref bi]], upd l "item" v⟩) ?o1 hf ?o2 (app_lt hf) (by exact om3 (by assumption) (by first | exact Nat.le_refl _ | decide)) (fun _ => rfl)) ?o3
    case o1 => walk_at "ev"
    case o2 =>
      refine' Ev.tup (st1 := ⟨H1, upd l "item" v⟩) (vs := [v, .ref bi]) ?p1 (by simp)
      case p1 => walk_at "evl"
    dsimp only
    have hK2 : Kp [] H ((H1 ++ [AObj.tup [v, .ref bi]]).set H.length (.list (ts ++ [.ref H1.length]))) := (hK.app _).set (.inr (Nat.le_refl _))
    have hltf := lt_of_at hf
    have hf2 : ((H1 ++ [AObj.tup [v, .ref bi]]).set H.length (.list (ts ++ [.ref H1.length])))[H.length]? = some (.list (ts ++ [.ref H1.length])) := set_at (app_lt hf)
    have htup : ((H1 ++ [AObj.tup [v, .ref bi]]).set H.length (.list (ts ++ [.ref H1.length])))[H1.length]? = some (.tup [v, .ref bi]) := set_ne (by exact Nat.ne_of_lt (by assumption)) app_at
    have hb2 : ∀ b, Beh H1 tk b → Beh ((H1 ++ [AObj.tup [v, .ref bi]]).set H.length (.list (ts ++ [.ref H1.length]))) tk b := fun b ⟨kv, g1, g2⟩ => ⟨kv, set_ne (by rintro rfl; rw [hf] at g1; cases g1) (app_lt g1), g2⟩
    have hP2 : IsPs H ((H1 ++ [AObj.tup [v, .ref bi]]).set H.length (.list (ts ++ [.ref H1.length]))) tk (es2 ++ [e1]) (ts ++ [.ref H1.length]) :=
      IsPs.snoc ⟨⟨_, _, _, rfl, htup, he1, hb2 _ hb⟩, trivial⟩ (h3.mono (fun a us e => set_ne (by rintro rfl; rw [hf] at e; cases e) (app_lt e)) hb2)
    have hm2 : ∀ e ∈ es2 ++ [e1], e ∈ es := fun e he => by
      rcases List.mem_append.mp he with h | h
      · exact h2 e h
      · rw [List.mem_singleton.mp h]; exact he1m
    have hi2 := hK2.at hi
    have hbb := hb2 _ hb
    generalize ((H1 ++ [AObj.tup [v, .ref bi]]).set H.length (.list (ts ++ [.ref H1.length]))) = H2 at *
    cases hs : decide (tag = "seq") with
    | false =>
      refine XS.skip (Tr.eqS (by walk_at "ev") hs) ?_
      refine XS.nil ?_
      dsimp only [Turn]
      exact ⟨es1, es2 ++ [e1], _, bi, _, _, hes1, fun e he => h1' e (List.mem_cons_of_mem _ he), hm2, hP2, rfl, hK2, hf2, hbb, by simp; exact om6 (by assumption) (by first | exact Nat.le_refl _ | decide), upd_ne (by decide) q1, upd_ne (by decide) q2, upd_ne (by decide) q3, upd_ne (by decide) q4⟩
    | true =>
      obtain ⟨av, hav1, hav2⟩ := hbb
      have I2 := I.kp hK2
      have j0 := I2.inst
      have j1 := I2.ns
      have j2 := I2.n3
      obtain ⟨r, H3, hc, d, kv, rfl, g1, g2, g3⟩ := predict_spec (w := w) G hk10 I2 (Nat.le_trans (hgt_le_hgts he1m) hk) (he1.kp hK2 Wr.nil) (okEs_all ho e1 he1m) hav1 hav2
      refine XS.ifT (Tr.eqS (by walk_at "ev") hs) ?_
      refine XS.assign (Ev.meth (H' := H3) G PC (by walk_at "ev") j0 j1 (by k_is) (by k_is) (by k_is) j2 (by walk_at "evl") hc (by intro _ _; rfl) (fun _ => rfl)) rfl (by decide) ?_
      refine XS.nil ⟨XS.nil ?_, by simp⟩
      dsimp only [Turn]
      refine ⟨es1, es2 ++ [e1], _, d, _, _, hes1, fun e he => h1' e (List.mem_cons_of_mem _ he), hm2, hP2.mono (fun a us e => g3.at e) (fun b hb => hb.kp g3), rfl, hK2.trans g3, g3.at hf2, ⟨kv, g1, g2⟩, by simp; exact om6 (by assumption) (by first | exact Nat.le_refl _ | decide), upd_eq, upd_ne (by decide) (upd_ne (by decide) q2), upd_ne (by decide) (upd_ne (by decide) q3), upd_ne (by decide) (upd_ne (by decide) q4)⟩
end
end

section
variable {w : World} {b₀ : Heap} {n : Nat} {P : Params} {H : List AObj}

theorem Rows.notList {H : List AObj} {names tk : List Str} {D : Nat} {rows : List (Str × AVal)} {ds : List Nat} (h : Rows H names tk D rows ds) {f : Nat} {us : List AVal} (hf : H[f]? = some (.list us)) : f ∉ ds := fun q => by
  obtain ⟨_, kv, h1, _⟩ := h.row f q; rw [hf] at h1; cases h1
theorem Rows.notTup {H : List AObj} {names tk : List Str} {D : Nat} {rows : List (Str × AVal)} {ds : List Nat} (h : Rows H names tk D rows ds) {f : Nat} {us : List AVal} (hf : H[f]? = some (.tup us)) : f ∉ ds := fun q => by
  obtain ⟨_, kv, h1, _⟩ := h.row f q; rw [hf] at h1; cases h1
theorem Rows.wr {H : List AObj} {names tk : List Str} {D : Nat} {rows : List (Str × AVal)} {ds : List Nat} (h : Rows H names tk D rows ds) : Wr ds H := fun i hi => ⟨fun us q => h.notTup q hi, fun us q => h.notList q hi⟩
theorem Beh.rows {H H' : List AObj} {names tk : List Str} {D b : Nat} {rows : List (Str × AVal)} {ds : List Nat} (h : Beh H tk b) (a : Kp ds H H') (r : Rows H' names tk D rows ds) : Beh H' tk b := by
  by_cases hb : b ∈ ds
  · obtain ⟨_, kv, h1, h2⟩ := r.row b hb; exact ⟨kv, h1, h2⟩
  · obtain ⟨kv, h1, h2⟩ := h; exact ⟨kv, a.keep b _ h1 hb, h2⟩

inductive AF1 (H0 H : List AObj) (nm tk : List Str) (es : List E) (ts : List AVal) (rows : List (Str × AVal)) (ds : List Nat) (f gi D : Nat) (vs : List AVal) (st : ASt) : Prop
  | mk : ∀ (es2 : List E) (g : Bool) (H2 : List AObj) (l : Str → Option AVal), IsPs H H2 tk es2 vs → (∀ e ∈ es2, e ∈ es) → st = ⟨H2, l⟩ → Kp [] H0 H2 → Kp ds H H2 → Rows H2 nm tk D rows ds → tot H ds ≤ tot H2 ds → (g = true → tot H ds < tot H2 ds) → H2[f]? = some (.list ts) → l "grown" = some (.bool g) →
    l "grammar" = some (.ref gi) → l "follows" = some (.ref D) → AF1 H0 H nm tk es ts rows ds f gi D vs st
inductive AFP (H0 H : List AObj) (nm tk : List Str) (rows : List (Str × AVal)) (ds : List Nat) (D : Nat) (r : AVal) (H' : List AObj) : Prop
  | mk : ∀ (g : Bool), r = .bool g → Kp [] H0 H' → Kp ds H H' → Rows H' nm tk D rows ds → tot H ds ≤ tot H' ds → (g = true → tot H ds < tot H' ds) → AFP H0 H nm tk rows ds D r H'
section
variable {rs : List (Str × E)} {tk : List Str} {gi di ti mi fi D : Nat} {kvs ps em rows : List (Str × AVal)} {ds : List Nat} {H0 : List AObj}

theorem add_follows_spec (G : Glo (hd.heap_39 P) b₀) (hk10 : tk.length ≤ 10) (I : Gi H0 rs tk gi di ti mi fi kvs ps em) (hD : H0.length ≤ D) (hrk : ∀ x, (aget rows x).isSome = true → x ∈ rs.map (·.1)) : ∀ (k : Nat), k ≤ 2 → ∀ (e : E) (v : AVal) (ai : Nat) (H : List AObj), hgt e ≤ k → IsE H e v → okE rs tk e → Kp [] H0 H → Rows H (rs.map (·.1)) tk D rows ds → Beh H tk ai →
    XC w b₀ (k + 8) (.val (.ref 119)) [.ref gi, v, .ref ai, .ref D] H (AFP H0 H (rs.map (·.1)) tk rows ds D) := by
  intro k
  induction k with
  | zero =>
    intro hk2 e v ai H hk he ho hK hR hb
    obtain ⟨av, ha1, ha2⟩ := hb
    have hDat := hR.at_
    refine XC.def (n := 7) (ps := ["grammar", "e", "after", "follows"]) G (by k_is) (by k_is) rfl rfl (ar4 fun _ _ _ _ => rfl) (by decide) (by decide) (by decide) rfl rfl rfl ?_
    have he' := he
    cases e with
    | name x =>
      obtain ⟨i, rfl, hi⟩ := id he'
      refine XS.assign (by walk_at "ev") rfl (by decide) ?_
      refine XS.ifT (by walk_at "tr") ?_
      cases hx : aget rows x with
      | none =>
        refine XS.skip (by walk_at "tr") ?_
        exact XS.ret (v := .bool false) (by walk_at "ev") (by exact ⟨⟨false, rfl, hK, Kp.refl, hR, Nat.le_refl _, fun h => (by cases h)⟩, by simp⟩)
      | some u =>
        obtain ⟨d, hd, hrd⟩ := hR.cov x (hrk x (by rw [hx]; rfl))
        obtain ⟨hlt, kv, hkv, htk⟩ := hR.row d hd
        have l1 := htk.len
        have l2 := ha2.len
        have hT := htk.mT (ks := av.map (·.1)) ha2.2
        have l3 := hT.len
        obtain ⟨r3, H3, hc3, rfl, rfl⟩ := merge_spec (w := w) G hkv ha1 (by exact om8' (by assumption) (by assumption) (by decide)) (by exact om7 (by assumption) (by assumption) (by assumption)) (by exact om8' (by assumption) (by assumption) (by decide))
        have hc3' := hc3.mono (show 1 ≤ 7 by decide)
        have hge := mT_len_ge (ks := av.map (·.1)) (T := kv)
        refine XS.ifT (by walk_at "tr") ?_
        refine XS.ret (v := .bool (decide (((mT kv (av.map (·.1))).length : Int) > (kv.length : Int)))) (Ev.callH (H := H) (by walk_at "ev") (callForm_K G (by k_is)) (EvL.cons (Ev.subD (by walk_at "ev") (by walk_at "ev") hDat hrd hs_s) (by walk_at "evl")) hc3' (by intro _ _; rfl)) ?_
        refine ⟨⟨⟨_, rfl, hK.set (.inr (by exact Nat.le_of_lt (Nat.lt_of_le_of_lt (by assumption) (by assumption)))), Kp.refl.set (.inl hd), hR.set hd hT, tot_set hkv hge, fun h => tot_set_lt hkv hd ?_⟩, by simp⟩, by simp⟩
        have := of_decide_eq_true h
        omega
    | text x =>
      obtain ⟨i, rfl, hi⟩ := id he'
      refine XS.assign (by walk_at "ev") rfl (by decide) ?_
      refine XS.skip (by walk_at "tr") ?_
      refine XS.ifT (by walk_at "tr") ?_
      exact XS.ret (v := .bool false) (by walk_at "ev") (by exact ⟨⟨false, rfl, hK, Kp.refl, hR, Nat.le_refl _, fun h => (by cases h)⟩, by simp⟩)
    | _ => exact absurd hk (Nat.not_succ_le_zero _)
  | succ k ih =>
    intro hk2 e v ai H hk he ho hK hR hb
    have both : ∀ (tag : Str) (es : List E) (i j : Nat) (us : List AVal), decide (tag = "name") = false → decide (tag = "text") = false → decide (tag = "opt") = false → decide (tag = "rep") = false → H[i]? = some (.tup [.str tag, .ref j]) → H[j]? = some (.list us) → IsEs H es us → okEs rs tk es → es.length ≤ 10 → hgts es ≤ k →
        XC w b₀ (k + 9) (.val (.ref 119)) [.ref gi, .ref i, .ref ai, .ref D] H (AFP H0 H (rs.map (·.1)) tk rows ds D) := by
      intro tag es i j us t1 t2 t3 t4 hi hj0 hes0 ho1 ho2 hk'
      refine XC.def (n := k + 8) (ps := ["grammar", "e", "after", "follows"]) G (by k_is) (by k_is) rfl rfl (ar4 fun _ _ _ _ => rfl) (by decide) (by decide) (by decide) rfl rfl rfl ?_
      obtain ⟨r, H1, hc1, f, ts, es2, rfl, g1, g2, g3, g4, g5⟩ := parts_spec (w := w) G hk10 (I.kp hK) hi hj0 hes0 (by exact Nat.le_of_lt (Nat.lt_of_le_of_lt (by assumption) (by assumption))) ho1 ho2 hb
      have hc1' := hc1.mono (show 7 ≤ k + 8 by exact om9 (by decide))
      have hR1 := hR.kp g5
      have ht1 := hR.totkp g5
      refine XS.assign (by walk_at "ev") rfl (by decide) ?_
      refine XS.skip (Tr.eqS (by walk_at "ev") t1) ?_
      refine XS.skip (Tr.eqS (by walk_at "ev") t2) ?_
      refine XS.skip (Tr.eqS (by walk_at "ev") t3) ?_
      refine XS.skip (Tr.eqS (by walk_at "ev") t4) ?_
      refine XS.assign (by walk_at "ev") rfl (by decide) ?_
      refine' XS.forL (i := f) (vs := ts) (Ev.callH (H := H) ?o1 ?o2 ?o3 hc1' ?o4) g1 (XL.run (AF1 H0 H (rs.map (·.1)) tk es ts rows ds f gi D)
        (fun vs st h => ?p1) (fun st h => ?p2) (fun v vs st h => ?p3) _ _ ⟨es2, false, H1, _, g2, g3, rfl, hK.trans g5, g5.nil, hR1, ht1, fun h => (by cases h), g1, ?o5, ?o6, ?o7⟩)
      case o1 => walk_at "ev"
      case o2 => exact callForm_K G (by k_is)
      case o3 => walk_at "evl"
      case o4 => intro _ _; rfl
      case o5 => rfl
      case o6 => rfl
      case o7 => rfl
      case p1 => obtain ⟨es2, g, H2, l, _, _, rfl, _, _, _, _, _, h, _⟩ := h; exact h
      case p2 =>
        obtain ⟨es2, g, H2, l, _, _, rfl, p1, p2, p3, p4, p5, _, q0, q1, q2⟩ := h
        exact XS.ret (v := .bool g) (by walk_at "ev") (by exact ⟨g, rfl, p1, p2, p3, p4, p5⟩)
      case p3 =>
        obtain ⟨es2, g, H2, l, hP, hm, rfl, p1, p2, p3, p4, p5, p6, q0, q1, q2⟩ := h
        obtain ⟨e1, es3, rfl, ⟨i1, u1, b1, rfl, t1, t2, t3⟩, hP'⟩ := hP.inv_cons
        have hm1 : e1 ∈ es := hm e1 List.mem_cons_self
        obtain ⟨r, H3, hc, g', rfl, m1, m2, m3, m4, m5⟩ := ih (by exact Nat.le_of_lt (by assumption)) e1 u1 b1 H2 (Nat.le_trans (hgt_le_hgts hm1) hk') (t2.kp p2 hR.wr) (okEs_all ho1 e1 hm1) p1 p3 t3
        have hK3 := p2.trans m2
        have f3 := m2.keep f _ p6 (p3.notList p6)
        have hP3 : IsPs H H3 tk es3 vs := hP'.mono (fun a us e => m2.keep a _ e (p3.notTup e)) (fun b hb => hb.rows m2 m3)
        have hm3 : ∀ e ∈ es3, e ∈ es := fun e he => hm e (List.mem_cons_of_mem _ he)
        refine ⟨_, As.pair t1 rfl (by decide) rfl (by decide), ?_⟩
        cases g' with
        | true =>
          refine XS.ifT (by walk_at "tr") ?_
          refine XS.assign (by walk_at "ev") rfl (by decide) ?_
          refine XS.nil ⟨XS.nil ?_, by simp⟩
          dsimp only [Turn]
          exact ⟨es3, true, H3, _, hP3, hm3, rfl, m1, hK3, m3, Nat.le_trans p4 m4, fun _ => Nat.lt_of_le_of_lt p4 (m5 rfl), f3, upd_eq, upd_ne (by decide) (upd_ne (by decide) (upd_ne (by decide) q1)), upd_ne (by decide) (upd_ne (by decide) (upd_ne (by decide) q2))⟩
        | false =>
          refine XS.skip (by walk_at "tr") ?_
          refine XS.nil ?_
          dsimp only [Turn]
          exact ⟨es3, g, H3, _, hP3, hm3, rfl, m1, hK3, m3, Nat.le_trans p4 m4, fun h => Nat.lt_of_lt_of_le (p5 h) m4, f3, upd_ne (by decide) (upd_ne (by decide) q0), upd_ne (by decide) (upd_ne (by decide) q1), upd_ne (by decide) (upd_ne (by decide) q2)⟩
    cases e with
    | name x => exact (ih (by exact Nat.le_of_lt (by assumption)) _ v ai H (Nat.zero_le _) he ho hK hR hb).mono (by exact Nat.le_succ _) fun _ _ h => h
    | text x => exact (ih (by exact Nat.le_of_lt (by assumption)) _ v ai H (Nat.zero_le _) he ho hK hR hb).mono (by exact Nat.le_succ _) fun _ _ h => h
    | opt e =>
      refine XC.def (n := k + 8) (ps := ["grammar", "e", "after", "follows"]) G (by k_is) (by k_is) rfl rfl (ar4 fun _ _ _ _ => rfl) (by decide) (by decide) (by decide) rfl rfl rfl ?_
      obtain ⟨i, u, rfl, hi, hu⟩ := id he
      obtain ⟨r, H', hc, g, rfl, p1, p2, p3, p4, p5⟩ := ih (by exact Nat.le_of_lt (by assumption)) e u ai H (Nat.le_of_succ_le_succ hk) hu ho hK hR hb
      refine XS.assign (by walk_at "ev") rfl (by decide) ?_
      refine XS.skip (by walk_at "tr") ?_
      refine XS.skip (by walk_at "tr") ?_
      refine XS.ifT (by walk_at "tr") ?_
      exact XS.ret (v := .bool g) (by walk_at "ev") (by exact ⟨⟨g, rfl, p1, p2, p3, p4, p5⟩, by simp⟩)
    | rep e =>
      refine XC.def (n := k + 8) (ps := ["grammar", "e", "after", "follows"]) G (by k_is) (by k_is) rfl rfl (ar4 fun _ _ _ _ => rfl) (by decide) (by decide) (by decide) rfl rfl rfl ?_
      obtain ⟨cd, PC⟩ := gcls P
      have heK := he
      obtain ⟨i, u, rfl, hi, hu⟩ := id he
      have I1 := I.kp hK
      have j0 := I1.inst
      have j1 := I1.ns
      have j2 := I1.n3
      obtain ⟨av, ha1, ha2⟩ := hb
      obtain ⟨r, H1, hc1, d, kv, rfl, g1, g2, g3⟩ := predict_spec (w := w) G hk10 I1 (by exact om8' (by assumption) (by assumption) (by decide)) heK ho ha1 ha2
      have hc1' := hc1.mono (show 6 ≤ k + 8 by exact om9 (by decide))
      obtain ⟨r, H', hc, g, rfl, p1, p2, p3, p4, p5⟩ := ih (by exact Nat.le_of_lt (by assumption)) e u d H1 (Nat.le_of_succ_le_succ hk) (hu.kp g3 Wr.nil) ho (hK.trans g3) (hR.kp g3) ⟨kv, g1, g2⟩
      have ht := hR.totkp g3
      refine XS.assign (by walk_at "ev") rfl (by decide) ?_
      refine XS.skip (by walk_at "tr") ?_
      refine XS.skip (by walk_at "tr") ?_
      refine XS.skip (by walk_at "tr") ?_
      refine XS.ifT (by walk_at "tr") ?_
      have hi1 := g3.at hi
      refine' XS.ret (v := .bool g) (Ev.callH (H := H1) ?o1 ?o2 (EvL.cons ?o3 (EvL.cons ?o4 (EvL.cons ?o5 ?o6))) hc ?o7) ?o8
      case o1 => walk_at "ev"
      case o2 => exact callForm_K G (by k_is)
      case o3 => walk_at "ev"
      case o4 => walk_at "ev"
      case o5 => exact Ev.meth (H' := H1) G PC (by walk_at "ev") j0 j1 (by k_is) (by k_is) (by k_is) j2 (by walk_at "evl") hc1' (by intro _ _; rfl) (fun _ => rfl)
      case o6 => walk_at "evl"
      case o7 => intro _ _; rfl
      case o8 => exact ⟨⟨g, rfl, p1, g3.nil.trans p2, p3, Nat.le_trans ht p4, fun h => Nat.lt_of_le_of_lt ht (p5 h)⟩, by simp⟩
    | seq es =>
      obtain ⟨i, j, us, rfl, hi, hj0, hes0⟩ := id he
      have ho' : okEs rs tk es ∧ es.length ≤ 10 := ho
      exact both "seq" es i j us (by decide) (by decide) (by decide) (by decide) hi hj0 hes0 ho'.1 ho'.2 (Nat.le_of_succ_le_succ hk)
    | alt es =>
      obtain ⟨i, j, us, rfl, hi, hj0, hes0⟩ := id he
      have ho' : okEs rs tk es ∧ es.length ≤ 10 := ho
      exact both "alt" es i j us (by decide) (by decide) (by decide) (by decide) hi hj0 hes0 ho'.1 ho'.2 (Nat.le_of_succ_le_succ hk)
end
end

section
variable {w : World} {b₀ : Heap} {n : Nat} {P : Params} {H : List AObj}

section
variable {rs : List (Str × E)} {tk : List Str} {gi di ti mi fi oi : Nat} {kvs ps em : List (Str × AVal)}

inductive FW1 (H : List AObj) (nm tk : List Str) (gi : Nat) (vs : List AVal) (st : ASt) : Prop
  | mk : ∀ (rem : List Str) (ds : List Nat) (rows : List (Str × AVal)) (H1 : List AObj) (l : Str → Option AVal), vs = rem.map AVal.str → (∀ x ∈ rem, x ∈ nm) → st = ⟨H1, l⟩ → Kp [] H H1 → H1[H.length]? = some (.dict rows) →
    (∀ x ∈ nm, x ∉ rem → ∃ d ∈ ds, aget rows x = some (.ref d)) → (∀ d ∈ ds, H.length < d ∧ ∃ kv, H1[d]? = some (.dict kv) ∧ TokD tk kv) → TokD nm rows → l "follows" = some (.ref H.length) → l "grammar" = some (.ref gi) → FW1 H nm tk gi vs st
inductive FW2 (H : List AObj) (nm tk : List Str) (rows : List (Str × AVal)) (ds : List Nat) (gi : Nat) (m : Nat) (st : ASt) : Prop
  | mk : ∀ (g : Bool) (H1 : List AObj) (l : Str → Option AVal), st = ⟨H1, l⟩ → Kp [] H H1 → Rows H1 nm tk H.length rows ds → l "grown" = some (.bool g) → m = 2 * (tk.length * ds.length - tot H1 ds) + (if g then 1 else 0) → l "follows" = some (.ref H.length) → l "grammar" = some (.ref gi) → FW2 H nm tk rows ds gi m st
inductive FW3 (H H1 : List AObj) (nm tk : List Str) (rows : List (Str × AVal)) (ds : List Nat) (gi : Nat) (vs : List AVal) (st : ASt) : Prop
  | mk : ∀ (rem : List Str) (g2 : Bool) (H2 : List AObj) (l : Str → Option AVal), vs = rem.map AVal.str → (∀ x ∈ rem, x ∈ nm) → st = ⟨H2, l⟩ → Kp [] H H2 → Rows H2 nm tk H.length rows ds → l "grown" = some (.bool g2) → tot H1 ds ≤ tot H2 ds → (g2 = true → tot H1 ds < tot H2 ds) → l "follows" = some (.ref H.length) → l "grammar" = some (.ref gi) → FW3 H H1 nm tk rows ds gi vs st
inductive FWP (H : List AObj) (r : AVal) (H' : List AObj) : Prop
  | mk : r = .ref H.length → Kp [] H H' → FWP H r H'
theorem follow_rows_spec (G : Glo (hd.heap_39 P) b₀) (hk10 : tk.length ≤ 10) (I : Gi H rs tk gi di ti mi fi kvs ps em) (T : Tb H rs ti oi) (hord : aget kvs "order" = some (.ref oi)) {start : Str} (hst : aget kvs "start" = some (.str start)) (hsm : start ∈ rs.map (·.1)) (hend : ("eof" : Str) ∈ tk) (hok : ∀ x e, eget rs x = some e → okE rs tk e) :
    XC w b₀ 11 (.val (.ref 112)) [.ref gi] H (FWP H) := by
  obtain ⟨cd, PC⟩ := gcls P
  have hoi := T.ord
  have I0 := I.kp (Kp.refl.app [AObj.dict []])
  have j0 := I0.inst
  have j1 := I0.ns
  refine XC.def (n := 10) (ps := ["grammar"]) G (by k_is) (by k_is) rfl rfl (ar1 fun _ => rfl) (by decide) (by decide) (by decide) rfl rfl rfl ?_
  refine XS.assign Ev.dict0 rfl (by decide) ?_
  refine XS.forL (i := oi) (vs := (rs.map (·.1)).map .str) (by walk_at "ev") (app_lt hoi) (XL.run (FW1 H (rs.map (·.1)) tk gi)
    (fun vs st h => ?_) (fun st h => ?_) (fun v vs st h => ?_) _ _ ⟨rs.map (·.1), [], [], _, _, rfl, fun _ h => h, rfl, Kp.refl.app _, app_at, fun x hx hn => absurd hx hn, by simp, TokD.nil, rfl, rfl⟩)
  · obtain ⟨rem, ds, rows, H1, l, _, _, rfl, hK, _⟩ := h; exact hK.at hoi
  rotate_left
  · obtain ⟨rem, ds, rows, H1, l, hv, hr, rfl, hK, hD, hcov, hrow, hTr, q0, q1⟩ := h
    replace hv := cons_map hv
    obtain ⟨x, rem, rfl, rfl, rfl⟩ := hv
    have hlr : rows.length ≤ rs.length := by have := hTr.len; simpa using this
    have hsm := T.small
    refine ⟨_, As.name rfl (by decide), ?_⟩
    have hD' : (H1 ++ [AObj.dict []])[H.length]? = some (.dict rows) := app_lt hD
    have hltD := lt_of_at hD
    refine XS.next (Ex.setItem (v1 := .ref H1.length) Ev.dict0 (by walk_at "ev") (by walk_at "ev") (op_setD hD' (by exact om8' (by assumption) (by assumption) (by decide)))) ?_
    refine XS.nil ?_
    dsimp only [Turn]
    refine ⟨rem, H1.length :: ds, aput rows x (.ref H1.length), _, _, rfl, fun y hy => hr y (List.mem_cons_of_mem _ hy), rfl, (hK.app _).set (.inr (Nat.le_refl _)), set_at hD', fun y hy hny => ?_, fun d hd => ?_, hTr.put (hr x List.mem_cons_self), upd_ne (by decide) q0, upd_ne (by decide) q1⟩
    · rw [aget_aput]
      by_cases hyx : y = x
      · rw [if_pos hyx]; exact ⟨_, List.mem_cons_self, rfl⟩
      · rw [if_neg hyx]
        obtain ⟨d, hd, e⟩ := hcov y hy (by simp [hyx, hny])
        exact ⟨d, List.mem_cons_of_mem _ hd, e⟩
    · rcases List.mem_cons.mp hd with rfl | hd
      · exact ⟨hltD, [], set_ne (by exact Nat.ne_of_lt (by assumption)) app_at, TokD.nil⟩
      · obtain ⟨g1, kv, g2, g3⟩ := hrow d hd
        exact ⟨g1, kv, set_ne (by exact Nat.ne_of_lt (by assumption)) (app_lt g2), g3⟩
  obtain ⟨rem, ds, rows, H1, l, hv, hr, rfl, hK, hD, hcov, hrow, hTr, q0, q1⟩ := h
  obtain rfl := nil_map hv
  have hR0 : Rows H1 (rs.map (·.1)) tk H.length rows ds := ⟨hD, fun x hx => hcov x hx (by simp), hrow⟩
  clear hcov hrow hD hv hr
  have I1 := I.kp hK
  have k0 := I1.inst
  have k1 := I1.ns
  obtain ⟨d, hd, hrd⟩ := hR0.cov start hsm
  have hDat := hR0.at_
  obtain ⟨hlt, kv, hkv, htk⟩ := hR0.row d hd
  have hkvl := htk.len
  refine XS.ifT (by walk_at "tr") ?_
  refine XS.next (Ex.setItem (v1 := .bool true) (v3 := .str "eof") (by walk_at "ev") (Ev.subD (by walk_at "ev") (by walk_at "ev") hDat hrd hs_a) (Ev.glob G rfl (by k_is) ⟨_, rfl⟩ rfl) (op_setD hkv (by exact om8' (by assumption) (by assumption) (by decide)))) ?_
  have hK1 := hK.set (j := d) (o := .dict (aput kv "eof" (.bool true))) (.inr (by exact Nat.le_of_lt (by assumption)))
  have hR1 := hR0.set hd (htk.put (v := .bool true) hend)
  have hrk : ∀ x, (aget rows x).isSome = true → x ∈ rs.map (·.1) := fun x hx => hTr.2 x (has_iff.mp hx)
  refine XS.nil ⟨?_, by simp⟩
  dsimp only [After]
  generalize H1.set d (.dict (aput kv "eof" (.bool true))) = H2 at *
  clear hK hR0 I1 k0 k1 hDat hkv
  refine XS.assign (by walk_at "ev") rfl (by decide) ?_
  refine XS.while_ (FW2 H (rs.map (·.1)) tk rows ds gi)
    (fun m st h => ?_) _ ⟨true, _, _, rfl, hK1, hR1, upd_eq, rfl, upd_ne (by decide) q0, upd_ne (by decide) q1⟩
  clear hK1 hR1 q0 q1
  obtain ⟨g, H1, l, rfl, hK, hR, h4, hm, q0, q1⟩ := h
  cases g with
  | false =>
    refine .inl ⟨_, by walk_at "tr", ?_⟩
    exact XS.ret (v := .ref H.length) (by walk_at "ev") (by exact ⟨rfl, hK⟩)
  | true =>
    refine .inr ⟨_, by walk_at "tr", ?_⟩
    refine XS.assign (by walk_at "ev") rfl (by decide) ?_
    have I1 := I.kp hK
    have k0 := I1.inst
    have k1 := I1.ns
    refine XS.forL (i := oi) (vs := (rs.map (·.1)).map .str) (by walk_at "ev") (hK.at hoi) (XL.run (FW3 H H1 (rs.map (·.1)) tk rows ds gi)
      (fun vs st h => ?_) (fun st h => ?_) (fun v vs st h => ?_) _ _ ⟨rs.map (·.1), false, _, _, rfl, fun _ h => h, rfl, hK, hR, upd_eq, Nat.le_refl _, fun h => (by cases h), upd_ne (by decide) q0, upd_ne (by decide) q1⟩)
    · obtain ⟨rem, g2, H2, l, _, _, rfl, hK, _⟩ := h; exact hK.at hoi
    · obtain ⟨rem, g2, H2, l2, hv, hr, rfl, hK2, hR2, h42, hle, hlt, q0, q1⟩ := h
      have hb1 := hR2.bound
      refine XS.nil ⟨_, ?_, g2, H2, l2, rfl, hK2, hR2, h42, rfl, q0, q1⟩
      cases g2 with
      | true => have := hlt rfl; subst hm; simp only [if_true]; exact om11 (by assumption) (by assumption)
      | false => subst hm; simp; exact om12 (by assumption) (by assumption)
    · obtain ⟨rem, g2, H2, l2, hv, hr, rfl, hK2, hR2, h42, hle, hlt, q0, q1⟩ := h
      replace hv := cons_map hv
      obtain ⟨x, rem, rfl, rfl, rfl⟩ := hv
      refine ⟨_, As.name rfl (by decide), ?_⟩
      have hxm : x ∈ rs.map (·.1) := hr x List.mem_cons_self
      obtain ⟨ex, hex⟩ := eget_key.mpr hxm
      have I2 := I.kp hK2
      obtain ⟨vx, hvx, hvE⟩ := I2.isT.some hex
      obtain ⟨d1, hd1, hrd1⟩ := hR2.cov x hxm
      obtain ⟨hlt1, kv1, hkv1, htk1⟩ := hR2.row d1 hd1
      have hDat := hR2.at_
      have k0 := I2.inst
      have k1 := I2.ns
      have hatab := I2.atab
      have hti2 := I2.tab
      obtain ⟨r, H3, hc, g', rfl, m1, m2, m3, m4, m5⟩ := add_follows_spec (w := w) G hk10 I (Nat.le_refl _) hrk 2 (Nat.le_refl _) ex vx d1 H2 (T.low x ex hex) hvE (hok x ex hex) hK2 hR2 ⟨kv1, hkv1, htk1⟩
      cases g' with
      | true =>
        refine' XS.ifT (Tr.valb (Ev.callH (H := H2) ?o1 ?o2 (EvL.cons ?o3 (EvL.cons ?o4 (EvL.cons ?o5 ?o6))) hc ?o7)) ?o8
        case o1 => walk_at "ev"
        case o2 => exact callForm_K G (by k_is)
        case o3 => walk_at "ev"
        case o4 => exact Ev.subD (by walk_at "ev") (by walk_at "ev") hti2 hvx hs_n
        case o5 => exact Ev.subD (by walk_at "ev") (by walk_at "ev") hDat hrd1 hs_n
        case o6 => walk_at "evl"
        case o7 => intro _ _; rfl
        refine XS.assign (by walk_at "ev") rfl (by decide) ?_
        refine XS.nil ⟨XS.nil ?_, by simp⟩
        dsimp only [Turn]
        have := m5 rfl
        exact ⟨rem, true, _, _, rfl, fun y hy => hr y (List.mem_cons_of_mem _ hy), rfl, m1, m3, upd_eq, by exact Nat.le_trans (by assumption) (by assumption), fun _ => by exact Nat.lt_of_le_of_lt (by assumption) (by assumption), upd_ne (by decide) (upd_ne (by decide) q0), upd_ne (by decide) (upd_ne (by decide) q1)⟩
      | false =>
        refine' XS.skip (Tr.valb (Ev.callH (H := H2) ?s1 ?s2 (EvL.cons ?s3 (EvL.cons ?s4 (EvL.cons ?s5 ?s6))) hc ?s7)) ?s8
        case s1 => walk_at "ev"
        case s2 => exact callForm_K G (by k_is)
        case s3 => walk_at "ev"
        case s4 => exact Ev.subD (by walk_at "ev") (by walk_at "ev") hti2 hvx hs_n
        case s5 => exact Ev.subD (by walk_at "ev") (by walk_at "ev") hDat hrd1 hs_n
        case s6 => walk_at "evl"
        case s7 => intro _ _; rfl
        refine XS.nil ?_
        dsimp only [Turn]
        exact ⟨rem, g2, _, _, rfl, fun y hy => hr y (List.mem_cons_of_mem _ hy), rfl, m1, m3, upd_ne (by decide) h42, by exact Nat.le_trans (by assumption) (by assumption), fun e => by have := hlt e; exact Nat.le_trans (by assumption) (by assumption), upd_ne (by decide) q0, upd_ne (by decide) q1⟩
end
end

section
variable {w : World} {b₀ : Heap} {n : Nat} {P : Params} {H : List AObj}

def IsRl (H : List AObj) : List (Str × E) → List AVal → Prop
  | [], [] => True
  | r :: rs, v :: vs => (∃ i u, v = .ref i ∧ H[i]? = some (.tup [.str r.1, u]) ∧ IsE H r.2 u) ∧ IsRl H rs vs
  | _, _ => False
theorem IsRl.inv_cons {H : List AObj} {v : AVal} {vs : List AVal} {rs : List (Str × E)} (h : IsRl H rs (v :: vs)) : ∃ r rs', rs = r :: rs' ∧ (∃ i u, v = .ref i ∧ H[i]? = some (.tup [.str r.1, u]) ∧ IsE H r.2 u) ∧ IsRl H rs' vs := by
  cases rs with | nil => exact False.elim h | cons r rs => exact ⟨r, rs, rfl, h.1, h.2⟩
theorem IsRl.inv_nil {H : List AObj} {rs : List (Str × E)} (h : IsRl H rs []) : rs = [] := by
  cases rs with | nil => rfl | cons _ _ => exact False.elim h
theorem IsT.snoc {H : List AObj} {r : Str × E} {p : Str × AVal} (h : r.1 = p.1 ∧ IsE H r.2 p.2) {rs : List (Str × E)} {ps : List (Str × AVal)} (hh : IsT H rs ps) : IsT H (rs ++ [r]) (ps ++ [p]) :=
  hh.ind (P := fun rs ps => IsT H (rs ++ [r]) (ps ++ [p])) ⟨h.1, h.2, trivial⟩ fun _ _ _ _ a b _ ih => ⟨a, b, ih⟩
theorem IsT.keys {H : List AObj} {rs : List (Str × E)} {ps : List (Str × AVal)} (h : IsT H rs ps) : ps.map (·.1) = rs.map (·.1) :=
  h.ind (P := fun rs ps => ps.map (·.1) = rs.map (·.1)) rfl fun _ _ _ _ a _ _ ih => by simp only [List.map_cons, a, ih]
theorem Tb.kp {H H' : List AObj} {rs : List (Str × E)} {ti oi : Nat} (T : Tb H rs ti oi) (a : Kp [] H H') : Tb H' rs ti oi :=
  ⟨let ⟨ps, h1, h2⟩ := T.tab; ⟨ps, a.at h1, h2.kp a Wr.nil⟩, a.at T.ord, T.nodup, T.small, T.low⟩

/-- what a grammar's object is -/
structure Gram (H : List AObj) (rs : List (Str × E)) (gi di ti mi : Nat) (kvs ps em : List (Str × AVal)) : Prop where
  inst : H[gi]? = some (.inst 73 di)
  ns : H[di]? = some (.ns kvs)
  atab : aget kvs "table" = some (.ref ti)
  aemp : aget kvs "empty" = some (.ref mi)
  n1 : aget kvs "nullable" = none
  tab : H[ti]? = some (.dict ps)
  isT : IsT H rs ps
  emp : H[mi]? = some (.dict em)
  lst : Least rs (hasK em)
theorem Gram.kp {H H' : List AObj} {rs : List (Str × E)} {gi di ti mi : Nat} {kvs ps em : List (Str × AVal)} (g : Gram H rs gi di ti mi kvs ps em) (a : Kp [] H H') : Gram H' rs gi di ti mi kvs ps em :=
  ⟨a.at g.inst, a.at g.ns, g.atab, g.aemp, g.n1, a.at g.tab, g.isT.kp a Wr.nil, a.at g.emp, g.lst⟩

section
variable {rs : List (Str × E)} {tk : List Str} {ri : Nat} {ts : List AVal} {start : Str}

abbrev K3 (L : Nat) (start : Str) : List (Str × AVal) := [("start", .str start), ("order", .ref (L + 2)), ("table", .ref (L + 3))]
abbrev K4 (L m : Nat) (start : Str) : List (Str × AVal) := [("start", .str start), ("order", .ref (L + 2)), ("table", .ref (L + 3)), ("empty", .ref m)]
abbrev K5 (L m f : Nat) (start : Str) : List (Str × AVal) := [("start", .str start), ("order", .ref (L + 2)), ("table", .ref (L + 3)), ("empty", .ref m), ("firsts", .ref f)]
abbrev HI (H : List AObj) (start : Str) (ord : List AVal) (tab : List (Str × AVal)) : List AObj := H ++ [.ns (K3 H.length start), .inst 73 H.length, .list ord, .dict tab]
theorem HI_di {ord : List AVal} {tab : List (Str × AVal)} : (HI H start ord tab)[H.length]? = some (.ns (K3 H.length start)) := by simp [HI]
theorem HI_gi {ord : List AVal} {tab : List (Str × AVal)} : (HI H start ord tab)[H.length + 1]? = some (.inst 73 H.length) := by simp [HI]
theorem HI_oi {ord : List AVal} {tab : List (Str × AVal)} : (HI H start ord tab)[H.length + 2]? = some (.list ord) := by simp [HI]
theorem HI_ti {ord : List AVal} {tab : List (Str × AVal)} : (HI H start ord tab)[H.length + 3]? = some (.dict tab) := by simp [HI]
theorem HI_so {ord ord' : List AVal} {tab : List (Str × AVal)} : (HI H start ord tab).set (H.length + 2) (.list ord') = HI H start ord' tab := by
  unfold HI; rw [List.set_append_right _ _ (by omega)]; simp
theorem HI_st {ord : List AVal} {tab tab' : List (Str × AVal)} : (HI H start ord tab).set (H.length + 3) (.dict tab') = HI H start ord tab' := by
  unfold HI; rw [List.set_append_right _ _ (by omega)]; simp
theorem HI_kp {ord : List AVal} {tab : List (Str × AVal)} : Kp [] H (HI H start ord tab) := Kp.refl.app _

inductive IN1 (H : List AObj) (rs : List (Str × E)) (start : Str) (vs : List AVal) (st : ASt) : Prop
  | mk : ∀ (rs1 rs2 : List (Str × E)) (ps : List (Str × AVal)) (l : Str → Option AVal), IsRl H rs2 vs → rs1 ++ rs2 = rs → IsT H rs1 ps → st = ⟨HI H start ((rs1.map (·.1)).map .str) ps, l⟩ → l "self" = some (.ref (H.length + 1)) → IN1 H rs start vs st
inductive INP (H : List AObj) (rs : List (Str × E)) (v : AVal) (H' : List AObj) : Prop
  | mk : ∀ (di ti mi : Nat) (kvs ps em : List (Str × AVal)), v = .none → Kp [] H H' → Gram H' rs (H.length + 1) di ti mi kvs ps em → INP H rs v H'
theorem init_spec (G : Glo (hd.heap_39 P) b₀) (hk10 : tk.length ≤ 10) (hend : ("eof" : Str) ∈ tk) (hri : H[ri]? = some (.list ts)) (hrl : IsRl H rs ts) (hnd : (rs.map (·.1)).Nodup) (hsm : rs.length ≤ 4) (hlow : ∀ x e, eget rs x = some e → hgt e ≤ 2) (hok : ∀ x e, eget rs x = some e → okE rs tk e) (hst : start ∈ rs.map (·.1)) :
    ∃ v H', Cod w b₀ 12 (.ref 49) [.ref (H.length + 1), .ref ri, .str start] (H ++ [.ns [], .inst 73 H.length]) v H' ∧ INP H rs v H' := by
  obtain ⟨cd, PC⟩ := gcls P
  have a0 : (H ++ [AObj.ns [], .inst 73 H.length])[H.length + 1]? = some (.inst 73 H.length) := by simp
  have a1 : (H ++ [AObj.ns [], .inst 73 H.length])[H.length]? = some (.ns []) := by simp
  refine XCod.def (n := 11) (ps := ["self", "rules", "start"]) G (by k_is) (by k_is) rfl rfl (ar3 fun _ _ _ => rfl) (by decide) (by decide) (by decide) rfl rfl rfl ?_
  refine XS.next (Ex.setAttr G PC (by walk_at "ev") (by walk_at "ev") a0 a1 (by k_is) (by simp)) ?_
  dsimp only
  have e1 : (H ++ [AObj.ns [], .inst 73 H.length]).set H.length (.ns (nput [] "start" (.str start))) = H ++ [.ns [("start", .str start)], .inst 73 H.length] := by
    rw [List.set_append_right _ _ (by exact Nat.le_refl _)]; simp [nput]
  rw [e1]
  have b0 : (H ++ [AObj.ns [("start", .str start)], .inst 73 H.length] ++ [AObj.list []])[H.length + 1]? = some (.inst 73 H.length) := by simp
  have b1 : (H ++ [AObj.ns [("start", .str start)], .inst 73 H.length] ++ [AObj.list []])[H.length]? = some (.ns [("start", .str start)]) := by simp
  refine XS.next (Ex.setAttr G PC (Ev.list EvL.nil (by simp)) (by walk_at "ev") b0 b1 (by k_is) (by simp)) ?_
  dsimp only
  have e2 : (H ++ [AObj.ns [("start", .str start)], .inst 73 H.length] ++ [AObj.list []]).set H.length (.ns (nput [("start", .str start)] "order" (.ref (H ++ [AObj.ns [("start", .str start)], .inst 73 H.length]).length))) = H ++ [.ns [("start", .str start), ("order", .ref (H.length + 2))], .inst 73 H.length, .list []] := by
    rw [List.append_assoc, List.set_append_right _ _ (by exact Nat.le_refl _)]
    have : (("start" : Str) = ("order" : Str)) = False := by simp; decide
    simp [nput, this]
  rw [e2]
  have c0 : (H ++ [AObj.ns [("start", .str start), ("order", .ref (H.length + 2))], .inst 73 H.length, .list []] ++ [AObj.dict []])[H.length + 1]? = some (.inst 73 H.length) := by simp
  have c1 : (H ++ [AObj.ns [("start", .str start), ("order", .ref (H.length + 2))], .inst 73 H.length, .list []] ++ [AObj.dict []])[H.length]? = some (.ns [("start", .str start), ("order", .ref (H.length + 2))]) := by simp
  refine XS.next (Ex.setAttr G PC Ev.dict0 (by walk_at "ev") c0 c1 (by k_is) (by simp)) ?_
  dsimp only
  have e3 : (H ++ [AObj.ns [("start", .str start), ("order", .ref (H.length + 2))], .inst 73 H.length, .list []] ++ [AObj.dict []]).set H.length (.ns (nput [("start", .str start), ("order", .ref (H.length + 2))] "table" (.ref (H ++ [AObj.ns [("start", .str start), ("order", .ref (H.length + 2))], .inst 73 H.length, .list []]).length))) = HI H start [] [] := by
    unfold HI
    rw [List.append_assoc, List.set_append_right _ _ (by exact Nat.le_refl _)]
    have t1 : (("start" : Str) = ("table" : Str)) = False := by simp; decide
    have t2 : (("order" : Str) = ("table" : Str)) = False := by simp; decide
    simp [nput, t1, t2]
  rw [e3]
  clear a0 a1 b0 b1 c0 c1 e1 e2 e3
  refine XS.forL (i := ri) (vs := ts) (by walk_at "ev") (HI_kp.at hri) (XL.run (IN1 H rs start)
    (fun vs st h => ?_) (fun st h => ?_) (fun v vs st h => ?_) _ _ ⟨[], rs, [], _, hrl, rfl, trivial, rfl, rfl⟩)
  · obtain ⟨rs1, rs2, ps, l, _, _, _, rfl, _⟩ := h; exact HI_kp.at hri
  rotate_left
  · obtain ⟨rs1, rs2, ps, l, h1, h2, h3, rfl, q0⟩ := h
    obtain ⟨r, rs2, rfl, ⟨i, u, rfl, t1, t2⟩, h1'⟩ := h1.inv_cons
    refine ⟨_, As.pair (HI_kp.at t1) rfl (by decide) rfl (by decide), ?_⟩
    have hn : aget ps r.1 = none := by
      rw [none_iff, h3.keys]
      intro hm
      rw [← h2, List.map_append, List.nodup_append] at hnd
      exact hnd.2.2 r.1 hm r.1 (by simp) rfl
    have i0 := HI_gi (H := H) (start := start) (ord := (rs1.map (·.1)).map .str) (tab := ps)
    have i1 := HI_di (H := H) (start := start) (ord := (rs1.map (·.1)).map .str) (tab := ps)
    have i2 := HI_oi (H := H) (start := start) (ord := (rs1.map (·.1)).map .str) (tab := ps)
    have i3 := HI_ti (H := H) (start := start) (ord := (rs1.map (·.1)).map .str) (tab := ps)
    have hl1 : rs1.length ≤ 4 := by rw [← h2] at hsm; simp at hsm; exact om3 (by assumption) (by first | exact Nat.le_refl _ | decide)
    have hl2 : ps.length = rs1.length := by have := congrArg List.length h3.keys; simpa using this
    refine XS.ifT (by walk_at "tr") ?_
    refine' XS.expr (Ev.append (v := .str r.1) (st1 := ⟨HI H start ((rs1.map (·.1)).map .str) ps, upd (upd l "name" (.str r.1)) "e" u⟩) (st2 := ⟨HI H start ((rs1.map (·.1)).map .str) ps, upd (upd l "name" (.str r.1)) "e" u⟩) ?o1 i2 ?o2 i2 (by simp; exact Nat.le_trans (by assumption) (by decide)) (fun _ => rfl)) ?o3
    case o1 => walk_at "ev"
    case o2 => walk_at "ev"
    dsimp only
    rw [HI_so, show (rs1.map (·.1)).map AVal.str ++ [AVal.str r.1] = ((rs1 ++ [r]).map (·.1)).map AVal.str by simp]
    have g0 := HI_gi (H := H) (start := start) (ord := ((rs1 ++ [r]).map (·.1)).map .str) (tab := ps)
    have g1 := HI_di (H := H) (start := start) (ord := ((rs1 ++ [r]).map (·.1)).map .str) (tab := ps)
    have g3 := HI_ti (H := H) (start := start) (ord := ((rs1 ++ [r]).map (·.1)).map .str) (tab := ps)
    refine XS.next (Ex.setItem (v1 := u) (v3 := .str r.1) (by walk_at "ev") (by walk_at "ev") (by walk_at "ev") (op_setD g3 (by omega))) ?_
    dsimp only
    rw [HI_st, aput_new (none_iff.mp hn)]
    refine XS.nil ⟨XS.nil ?_, by simp⟩
    dsimp only [Turn]
    exact ⟨rs1 ++ [r], rs2, _, _, h1', by rw [← h2]; simp, IsT.snoc ⟨rfl, t2⟩ h3, rfl, upd_ne (by decide) (upd_ne (by decide) q0)⟩
  obtain ⟨rs1, rs2, ps, l, h1, h2, h3, rfl, q0⟩ := h
  have h1 := h1.inv_nil
  subst h1
  rw [List.append_nil] at h2
  subst h2
  have i0 := HI_gi (H := H) (start := start) (ord := (rs1.map (·.1)).map .str) (tab := ps)
  have i1 := HI_di (H := H) (start := start) (ord := (rs1.map (·.1)).map .str) (tab := ps)
  have i2 := HI_oi (H := H) (start := start) (ord := (rs1.map (·.1)).map .str) (tab := ps)
  have i3 := HI_ti (H := H) (start := start) (ord := (rs1.map (·.1)).map .str) (tab := ps)
  have hKp := HI_kp (H := H) (start := start) (ord := (rs1.map (·.1)).map .str) (tab := ps)
  have hHl : (HI H start ((rs1.map (·.1)).map .str) ps).length = H.length + 4 := by simp [HI]
  have T0 : Tb (HI H start ((rs1.map (·.1)).map .str) ps) rs1 (H.length + 3) (H.length + 2) := ⟨⟨ps, i3, h3.kp hKp Wr.nil⟩, i2, hnd, hsm, hlow⟩
  generalize HI H start ((rs1.map (·.1)).map .str) ps = H4 at *
  -- empty
  obtain ⟨r, H', hc, em, rfl, rfl, hem1, hem2⟩ := empty_rules_spec (w := w) G T0
  have hc' := hc.mono (show 4 ≤ 11 by decide)
  have j0 := app_lt (l := [AObj.dict em]) i0
  have j1 := app_lt (l := [AObj.dict em]) i1
  refine XS.next (Ex.setAttr G PC (Ev.callH (H := H4) (by walk_at "ev") (callForm_K G (by k_is)) (by walk_at "evl") hc' (by intro _ _; rfl)) (by walk_at "ev") j0 j1 (by k_is) (by simp)) ?_
  dsimp only
  have hK5 : Kp [] H ((H4 ++ [AObj.dict em]).set H.length (.ns (nput (K3 H.length start) "empty" (.ref H4.length)))) := (hKp.app _).set (.inr (Nat.le_refl _))
  have i0' : ((H4 ++ [AObj.dict em]).set H.length (.ns (nput (K3 H.length start) "empty" (.ref H4.length))))[H.length + 1]? = some (.inst 73 H.length) := set_ne (by omega) j0
  have i1' : ((H4 ++ [AObj.dict em]).set H.length (.ns (nput (K3 H.length start) "empty" (.ref H4.length))))[H.length]? = some (.ns (nput (K3 H.length start) "empty" (.ref H4.length))) := set_at j1
  have hmi : ((H4 ++ [AObj.dict em]).set H.length (.ns (nput (K3 H.length start) "empty" (.ref H4.length))))[H4.length]? = some (.dict em) := set_ne (by omega) app_at
  have T5 : Tb ((H4 ++ [AObj.dict em]).set H.length (.ns (nput (K3 H.length start) "empty" (.ref H4.length)))) rs1 (H.length + 3) (H.length + 2) :=
    ⟨⟨ps, set_ne (by omega) (app_lt i3), h3.kp hK5 Wr.nil⟩, set_ne (by omega) (app_lt i2), hnd, hsm, hlow⟩
  have ek : nput (K3 H.length start) "empty" (.ref H4.length) = (K4 H.length H4.length start) := rfl
  rw [ek] at hK5 i0' i1' hmi T5 ⊢
  generalize hG5 : (H4 ++ [AObj.dict em]).set H.length (.ns (K4 H.length H4.length start)) = H5 at *
  have hl5 : H5.length = H.length + 5 := by rw [← hG5]; simp [hHl]
  -- firsts
  obtain ⟨r, H6, hc6, rfl, hK6, hRw6⟩ := first_rows_spec (w := w) G T5 hk10 hmi hok
  have hc6' := hc6.mono (show 5 ≤ 11 by decide)
  have m0 := hK6.at i0'
  have m1 := hK6.at i1'
  have hl6 := hK6.len
  refine XS.next (Ex.setAttr G PC (Ev.callH (H := H5) (by walk_at "ev") (callForm_K G (by k_is)) (by walk_at "evl") hc6' (by intro _ _; rfl)) (by walk_at "ev") m0 m1 (by k_is) (by simp)) ?_
  dsimp only
  have ek2 : nput (K4 H.length H4.length start) "firsts" (.ref H5.length) = (K5 H.length H4.length H5.length start) := rfl
  rw [ek2]
  have hK7 : Kp [] H (H6.set H.length (.ns (K5 H.length H4.length H5.length start))) := (hK5.trans hK6).set (.inr (Nat.le_refl _))
  have T6 := T5.kp hK6
  have hoi6 := T6.ord
  obtain ⟨ps6, hti6, hps6⟩ := T5.tab
  have hpe : ps6 = ps := by
    have h7 : H5[H.length + 3]? = some (.dict ps) := by rw [← hG5]; exact set_ne (by omega) (app_lt i3)
    rw [hti6] at h7; cases h7; rfl
  subst hpe
  have hti7 : (H6.set H.length (.ns (K5 H.length H4.length H5.length start)))[H.length + 3]? = some (.dict ps6) := set_ne (by omega) (hK6.at hti6)
  have I7 : Gi (H6.set H.length (.ns (K5 H.length H4.length H5.length start))) rs1 tk (H.length + 1) H.length (H.length + 3) H4.length H5.length (K5 H.length H4.length H5.length start) ps6 em :=
    ⟨set_ne (by omega) m0, set_at m1, rfl, rfl, rfl, rfl, rfl, rfl, hti7, h3.kp hK7 Wr.nil, set_ne (by omega) (hK6.at hmi), by
      obtain ⟨rows, f1, f2⟩ := hRw6
      refine ⟨rows, set_ne (by omega) f1, fun x hx => ?_⟩
      obtain ⟨d, kv, f3, f4, f5⟩ := f2 x hx
      refine ⟨d, kv, f3, set_ne (fun e => ?_) f4, f5⟩
      rw [← e, m1] at f4; cases f4⟩
  have T7 : Tb (H6.set H.length (.ns (K5 H.length H4.length H5.length start))) rs1 (H.length + 3) (H.length + 2) :=
    ⟨⟨ps6, hti7, h3.kp hK7 Wr.nil⟩, set_ne (by omega) hoi6, hnd, hsm, hlow⟩
  generalize H6.set H.length (.ns (K5 H.length H4.length H5.length start)) = H7 at *
  -- follows
  obtain ⟨r, H8, hc8, rfl, hK8⟩ := follow_rows_spec (w := w) G hk10 I7 T7 rfl rfl hst hend hok
  have I8 := I7.kp hK8
  have n0 := I8.inst
  have n1 := I8.ns
  refine XS.next (Ex.setAttr G PC (Ev.callH (H := H7) (by walk_at "ev") (callForm_K G (by k_is)) (by walk_at "evl") hc8 (by intro _ _; rfl)) (by walk_at "ev") n0 n1 (by k_is) (by simp)) ?_
  dsimp only
  have hK9 : Kp [] H (H8.set H.length (.ns (nput (K5 H.length H4.length H5.length start) "follows" (.ref H7.length)))) := (hK7.trans hK8).set (.inr (Nat.le_refl _))
  refine XS.nil ⟨H.length, H.length + 3, H4.length, _, ps6, em, rfl, hK9, set_ne (by omega) n0, set_at n1, rfl, rfl, rfl, set_ne (by omega) I8.tab, h3.kp hK9 Wr.nil, set_ne (by omega) I8.emp, hem2⟩

theorem grammar_spec (G : Glo (hd.heap_39 P) b₀) (hk10 : tk.length ≤ 10) (hend : ("eof" : Str) ∈ tk) (hri : H[ri]? = some (.list ts)) (hrl : IsRl H rs ts) (hnd : (rs.map (·.1)).Nodup) (hsm : rs.length ≤ 4) (hlow : ∀ x e, eget rs x = some e → hgt e ≤ 2) (hok : ∀ x e, eget rs x = some e → okE rs tk e) (hst : start ∈ rs.map (·.1)) :
    XC w b₀ 13 (.val (.ref 73)) [.ref ri, .str start] H fun r H' => r = .ref (H.length + 1) ∧ Kp [] H H' ∧ ∃ di ti mi kvs ps em, Gram H' rs (H.length + 1) di ti mi kvs ps em := by
  obtain ⟨v, H', hc, di, ti, mi, kvs, ps, em, rfl, h1, h2⟩ := init_spec (w := w) (H := H) G hk10 hend hri hrl hnd hsm hlow hok hst
  exact ⟨_, H', Cal.make G (by k_is) (by k_is) (by k_is) hc, rfl, h1, di, ti, mi, kvs, ps, em, h2⟩
end
end

/- the names that stand in front -/
mutual
def fr (N : Str → Bool) : E → List Str
  | .name x => [x]
  | .text _ => []
  | .opt e => fr N e
  | .rep e => fr N e
  | .seq es => frSeq N es
  | .alt es => frAlt N es
def frSeq (N : Str → Bool) : List E → List Str
  | [] => []
  | e :: es => fr N e ++ (if mbe N e then frSeq N es else [])
def frAlt (N : Str → Bool) : List E → List Str
  | [] => []
  | e :: es => fr N e ++ frAlt N es
end
mutual
def sz : E → Nat
  | .name _ => 1
  | .text _ => 1
  | .opt e => sz e + 1
  | .rep e => sz e + 1
  | .seq es => szs es + 1
  | .alt es => szs es + 1
def szs : List E → Nat
  | [] => 0
  | e :: es => sz e + szs es
end
theorem szs_append : ∀ {a b : List E}, szs (a ++ b) = szs a + szs b
  | [], b => by simp [szs]
  | e :: a, b => by rw [List.cons_append, szs, szs, szs_append]; omega
theorem sz_pos : ∀ e : E, 1 ≤ sz e
  | .name _ => by rw [sz]; decide
  | .text _ => by rw [sz]; decide
  | .opt e => by rw [sz]; exact om9 (by decide)
  | .rep e => by rw [sz]; exact om9 (by decide)
  | .seq es => by rw [sz]; exact om9 (by decide)
  | .alt es => by rw [sz]; exact om9 (by decide)
theorem len_szs : ∀ es : List E, es.length ≤ szs es
  | [] => Nat.zero_le _
  | e :: es => by have := sz_pos e; have := len_szs es; rw [szs, List.length_cons]; omega
theorem mem_frAlt {N : Str → Bool} {x : Str} : ∀ {es : List E}, x ∈ frAlt N es ↔ ∃ e ∈ es, x ∈ fr N e
  | [] => by simp [frAlt]
  | e :: es => by rw [frAlt, List.mem_append, mem_frAlt]; simp

theorem frSeq_all {N : Str → Bool} {x : Str} {rem : List E} : ∀ {dn : List E}, (∀ d ∈ dn, mbe N d = true) → (x ∈ frSeq N (dn ++ rem) ↔ (∃ e ∈ dn, x ∈ fr N e) ∨ x ∈ frSeq N rem)
  | [], _ => by simp
  | d :: dn, h => by
    rw [List.cons_append, frSeq, h d List.mem_cons_self, List.mem_append]
    simp only [if_true]
    rw [frSeq_all (dn := dn) fun e he => h e (List.mem_cons_of_mem _ he)]
    simp only [List.mem_cons, exists_eq_or_imp]
    rw [or_assoc]

inductive Rch (rs : List (Str × E)) (N : Str → Bool) (a : Str) : Str → Prop
  | one {e : E} {x : Str} : eget rs a = some e → x ∈ fr N e → Rch rs N a x
  | step {y : Str} {e : E} {x : Str} : Rch rs N a y → eget rs y = some e → x ∈ fr N e → Rch rs N a x

def uns (seen : Str → Bool) : List (Str × E) → Nat
  | [] => 0
  | r :: rs => (if seen r.1 then 0 else sz r.2 + 1) + uns seen rs
theorem uns_le {s s' : Str → Bool} (h : ∀ x, s x = true → s' x = true) : ∀ {rs : List (Str × E)}, uns s' rs ≤ uns s rs
  | [] => Nat.le_refl _
  | r :: rs => by
    have ih := uns_le h (rs := rs)
    simp only [uns]
    cases h1 : s r.1 with
    | true => rw [h _ h1]; simp; exact ih
    | false => cases s' r.1 <;> simp <;> omega
theorem uns_mark {s s' : Str → Bool} {x : Str} {e : E} (h : ∀ x, s x = true → s' x = true) (hx : s x = false) (hx' : s' x = true) : ∀ {rs : List (Str × E)}, eget rs x = some e → uns s' rs + (sz e + 1) ≤ uns s rs
  | [], h => by cases h
  | r :: rs, he => by
    simp only [uns]
    by_cases hr : r.1 = x
    · have : r.2 = e := by
        simp only [eget, List.find?_cons, hr, decide_true, Option.map_some] at he
        exact Option.some.inj he
      rw [hr, hx, hx', this]
      have := uns_le h (rs := rs)
      simp; omega
    · have he' : eget rs x = some e := by
        simp only [eget, List.find?_cons, hr, decide_false] at he ⊢
        exact he
      have ih := uns_mark h hx hx' he'
      cases h1 : s r.1 with
      | true => rw [h _ h1]; simp; exact ih
      | false => cases s' r.1 <;> simp <;> omega
theorem uns_bound {s : Str → Bool} {b : Nat} : ∀ {rs : List (Str × E)}, (∀ r ∈ rs, sz r.2 ≤ b) → uns s rs ≤ (b + 1) * rs.length
  | [], _ => Nat.zero_le _
  | r :: rs, h => by
    have h1 := h r List.mem_cons_self
    have ih := uns_bound (s := s) (rs := rs) fun q hq => h q (List.mem_cons_of_mem _ hq)
    simp only [uns, List.length_cons, Nat.mul_succ]
    split <;> omega
theorem IsEs.one {H : List AObj} {e : E} {v : AVal} (h : IsE H e v) : IsEs H [e] [v] := ⟨h, trivial⟩
theorem IsEs.append {H : List AObj} {es2 : List E} {vs2 : List AVal} (h2 : IsEs H es2 vs2) {es : List E} {vs : List AVal} (h : IsEs H es vs) : IsEs H (es ++ es2) (vs ++ vs2) :=
  h.ind (P := fun es vs => IsEs H (es ++ es2) (vs ++ vs2)) h2 fun _ _ _ _ a _ ih => ⟨a, ih⟩
/-- the last of a list of trees -/
theorem IsEs.last {H : List AObj} {es : List E} : ∀ {vs : List AVal}, IsEs H es vs → vs ≠ [] → ∃ es' e vs' v, es = es' ++ [e] ∧ vs = vs' ++ [v] ∧ IsEs H es' vs' ∧ IsE H e v := by
  induction es with
  | nil => intro vs h hn; cases vs with | nil => exact absurd rfl hn | cons _ _ => exact False.elim h
  | cons e es ih =>
    intro vs h hn
    cases vs with
    | nil => exact absurd rfl hn
    | cons v vs =>
      by_cases hv : vs = []
      · subst hv
        cases es with
        | nil => exact ⟨[], e, [], v, rfl, rfl, trivial, h.1⟩
        | cons _ _ => exact False.elim h.2
      · obtain ⟨es', e', vs', v', h1, h2, h3, h4⟩ := ih h.2 hv
        exact ⟨e :: es', e', v :: vs', v', by rw [h1]; rfl, by rw [h2]; rfl, ⟨h.1, h3⟩, h4⟩

section
variable {w : World} {b₀ : Heap} {n : Nat} {P : Params} {H : List AObj}

theorem op_gti' {a b : Int} {c : Bool} (h : decide (a > b) = c) : Op2 w b₀ n (compareOp .Gt) VR (.int a) (.int b) H (.bool c) H := h ▸ op_gti
abbrev HW (H : List AObj) (wv : List AVal) (sv : List (Str × AVal)) : List AObj := H ++ [.list wv, .dict sv]
section
variable {wv wv' : List AVal} {sv sv' : List (Str × AVal)}
theorem HW_w : (HW H wv sv)[H.length]? = some (.list wv) := by simp [HW]
theorem HW_s : (HW H wv sv)[H.length + 1]? = some (.dict sv) := by simp [HW]
theorem HW_sw : (HW H wv sv).set H.length (.list wv') = HW H wv' sv := by unfold HW; rw [List.set_append_right _ _ (by exact Nat.le_refl _)]; simp
theorem HW_ss : (HW H wv sv).set (H.length + 1) (.dict sv') = HW H wv sv' := by unfold HW; rw [List.set_append_right _ _ (by exact Nat.le_succ _)]; simp
theorem HW_kp : Kp [] H (HW H wv sv) := Kp.refl.app _
end

section
variable {rs : List (Str × E)} {gi di ti mi : Nat} {kvs ps em : List (Str × AVal)} {a : Str}

structure WS (H : List AObj) (rs : List (Str × E)) (N : Str → Bool) (a : Str) (es : List E) (wv : List AVal) (sv : List (Str × AVal)) (m : Nat) : Prop where
  tree : IsEs H es wv
  low : ∀ e ∈ es, hgt e ≤ 2
  keys : TokD (rs.map (·.1)) sv
  meas : m = szs es + uns (hasK sv) rs
  bound : m ≤ 1000
  sound : ∀ e ∈ es, ∀ x ∈ fr N e, Rch rs N a x
  seen : ∀ y, hasK sv y = true → Rch rs N a y
  full : ∀ y e, (y = a ∨ hasK sv y = true) → eget rs y = some e → ∀ x ∈ fr N e, (x ≠ a ∧ (eget rs x = none ∨ hasK sv x = true)) ∨ ∃ e' ∈ es, x ∈ fr N e'

theorem WS.again {N : Str → Bool} {es new : List E} {e : E} {wv nv : List AVal} {v : AVal} {sv : List (Str × AVal)} {m : Nat} (S : WS H rs N a (es ++ [e]) (wv ++ [v]) sv m) (ht : IsEs H es wv) (hn : IsEs H new nv) (hl : ∀ e' ∈ new, hgt e' ≤ 2)
    (hf : ∀ x, x ∈ fr N e ↔ ∃ e' ∈ new, x ∈ fr N e') (hs : szs new < sz e) : ∃ m', m' < m ∧ WS H rs N a (es ++ new) (wv ++ nv) sv m' := by
  have hm := S.meas
  have hb := S.bound
  rw [szs_append, szs, szs] at hm
  have hlt : szs es + szs new + uns (hasK sv) rs < m := Nat.lt_of_lt_of_eq (Nat.add_lt_add_right (Nat.add_lt_add_left hs _) _) hm.symm
  refine ⟨szs (es ++ new) + uns (hasK sv) rs, by rw [szs_append]; exact hlt, ⟨IsEs.append hn ht, fun e' he => ?_, S.keys, rfl, by rw [szs_append]; exact Nat.le_trans (Nat.le_of_lt hlt) hb, fun e' he x hx => ?_, S.seen, fun y ey hy hey x hx => ?_⟩⟩
  · rcases List.mem_append.mp he with h | h
    · exact S.low e' (List.mem_append_left _ h)
    · exact hl e' h
  · rcases List.mem_append.mp he with h | h
    · exact S.sound e' (List.mem_append_left _ h) x hx
    · exact S.sound e (by simp) x ((hf x).mpr ⟨e', h, hx⟩)
  · rcases S.full y ey hy hey x hx with h | ⟨e', he', hx'⟩
    · exact .inl h
    · rcases List.mem_append.mp he' with h | h
      · exact .inr ⟨e', List.mem_append_left _ h, hx'⟩
      · rw [List.mem_singleton.mp h] at hx'
        obtain ⟨e2, h2, h3⟩ := (hf x).mp hx'
        exact .inr ⟨e2, List.mem_append_right _ h2, h3⟩

/-- a name that leads nowhere new -/
theorem WS.skip {N : Str → Bool} {es : List E} {wv : List AVal} {v : AVal} {sv : List (Str × AVal)} {m : Nat} {x : Str} (S : WS H rs N a (es ++ [.name x]) (wv ++ [v]) sv m) (ht : IsEs H es wv) (hx : x ≠ a) (hn : eget rs x = none ∨ hasK sv x = true) :
    ∃ m', m' < m ∧ WS H rs N a es wv sv m' := by
  have hm := S.meas
  have hb := S.bound
  rw [szs_append, szs, szs, sz] at hm
  have hlt : szs es + uns (hasK sv) rs < m := Nat.lt_of_lt_of_eq (Nat.add_lt_add_right (Nat.lt_succ_self _) _) hm.symm
  refine ⟨szs es + uns (hasK sv) rs, hlt, ⟨ht, fun e' he => S.low e' (List.mem_append_left _ he), S.keys, rfl, Nat.le_trans (Nat.le_of_lt hlt) hb, fun e' he => S.sound e' (List.mem_append_left _ he), S.seen, fun y ey hy hey z hz => ?_⟩⟩
  rcases S.full y ey hy hey z hz with h | ⟨e', he', hx'⟩
  · exact .inl h
  · rcases List.mem_append.mp he' with h | h
    · exact .inr ⟨e', h, hx'⟩
    · rw [List.mem_singleton.mp h, fr, List.mem_singleton] at hx'
      subst hx'
      exact .inl ⟨hx, hn⟩
theorem WS.mark {N : Str → Bool} {es : List E} {wv : List AVal} {v vx : AVal} {sv : List (Str × AVal)} {m : Nat} {x : Str} {ex : E} (S : WS H rs N a (es ++ [.name x]) (wv ++ [v]) sv m) (ht : IsEs H es wv) (hx : x ≠ a) (he : eget rs x = some ex) (hn : hasK sv x = false) (hvx : IsE H ex vx) (hl : hgt ex ≤ 2) :
    ∃ m', m' < m ∧ WS H rs N a (es ++ [ex]) (wv ++ [vx]) (aput sv x (.bool true)) m' := by
  have hm := S.meas
  have hb := S.bound
  rw [szs_append, szs, szs, sz] at hm
  have hk : ∀ y, hasK (aput sv x (.bool true)) y = (decide (y = x) || hasK sv y) := fun y => has_aput
  have hmono : ∀ y, hasK sv y = true → hasK (aput sv x (.bool true)) y = true := fun y hy => by rw [hk, hy]; simp
  have hu := uns_mark hmono hn (by rw [hk]; simp) he
  have hR : Rch rs N a x := S.sound (.name x) (by simp) x (by rw [fr]; simp)
  have hlt : szs es + (sz ex + 0) + uns (hasK (aput sv x (.bool true))) rs < m := Nat.lt_of_lt_of_eq (om20 (Nat.le_refl _) hu) hm.symm
  refine ⟨szs (es ++ [ex]) + uns (hasK (aput sv x (.bool true))) rs, by rw [szs_append, szs, szs]; exact hlt, ⟨IsEs.append (IsEs.one hvx) ht, fun e' he' => ?_, S.keys.put (eget_key.mp ⟨ex, he⟩), rfl, by rw [szs_append, szs, szs]; exact Nat.le_trans (Nat.le_of_lt hlt) hb, fun e' he' z hz => ?_, fun y hy => ?_, fun y ey hy hey z hz => ?_⟩⟩
  · rcases List.mem_append.mp he' with h | h
    · exact S.low e' (List.mem_append_left _ h)
    · rw [List.mem_singleton.mp h]; exact hl
  · rcases List.mem_append.mp he' with h | h
    · exact S.sound e' (List.mem_append_left _ h) z hz
    · rw [List.mem_singleton.mp h] at hz
      exact .step hR he hz
  · rw [hk, Bool.or_eq_true] at hy
    rcases hy with h | h
    · have : y = x := by simpa using h
      rw [this]; exact hR
    · exact S.seen y h
  · have old : (y = a ∨ hasK sv y = true) → (z ≠ a ∧ (eget rs z = none ∨ hasK (aput sv x (.bool true)) z = true)) ∨ ∃ e' ∈ es ++ [ex], z ∈ fr N e' := fun hy' => by
      rcases S.full y ey hy' hey z hz with ⟨h1, h2⟩ | ⟨e', he', hx'⟩
      · exact .inl ⟨h1, h2.imp id (hmono z)⟩
      · rcases List.mem_append.mp he' with h | h
        · exact .inr ⟨e', List.mem_append_left _ h, hx'⟩
        · rw [List.mem_singleton.mp h, fr, List.mem_singleton] at hx'
          subst hx'
          exact .inl ⟨hx, .inr (by rw [hk]; simp)⟩
    rcases hy with h | h
    · exact old (.inl h)
    · rw [hk, Bool.or_eq_true] at h
      rcases h with h | h
      · have : y = x := by simpa using h
        subst this
        rw [he] at hey; cases hey
        exact .inr ⟨ex, by simp, hz⟩
      · exact old (.inr h)

inductive IW1 (H : List AObj) (rs : List (Str × E)) (N : Str → Bool) (a : Str) (gi m : Nat) (st : ASt) : Prop
  | mk : ∀ (es : List E) (wv : List AVal) (sv : List (Str × AVal)) (l : Str → Option AVal), st = ⟨HW H wv sv, l⟩ → WS H rs N a es wv sv m → l "waiting" = some (.ref H.length) → l "seen" = some (.ref (H.length + 1)) → l "grammar" = some (.ref gi) → l "name" = some (.str a) → IW1 H rs N a gi m st
inductive IW2 (H : List AObj) (N : Str → Bool) (a : Str) (gi : Nat) (items : List E) (wv' : List AVal) (sv : List (Str × AVal)) (vs : List AVal) (st : ASt) : Prop
  | mk : ∀ (dn rem : List E) (nv : List AVal) (l' : Str → Option AVal), IsEs H rem vs → dn ++ rem = items → IsEs H dn nv → (∀ d ∈ dn, mbe N d = true) → st = ⟨HW H (wv' ++ nv) sv, l'⟩ → nv.length + vs.length ≤ 1000 →
    l' "waiting" = some (.ref H.length) → l' "seen" = some (.ref (H.length + 1)) → l' "grammar" = some (.ref gi) → l' "name" = some (.str a) → IW2 H N a gi items wv' sv vs st
inductive IWP (H : List AObj) (rs : List (Str × E)) (N : Str → Bool) (a : Str) (r : AVal) (H' : List AObj) : Prop
  | mk : ∀ (b : Bool), r = .bool b → (b = true ↔ Rch rs N a a) → Kp [] H H' → IWP H rs N a r H'
theorem ilr_spec (G : Glo (hd.heap_39 P) b₀) (I : Gram H rs gi di ti mi kvs ps em) (hnd : (rs.map (·.1)).Nodup) (hsm : rs.length ≤ 4) (hlow : ∀ x e, eget rs x = some e → hgt e ≤ 2) (hsz : ∀ r ∈ rs, sz r.2 ≤ 100) {ea : E} (ha : eget rs a = some ea) :
    XC w b₀ 5 (.val (.ref 133)) [.ref gi, .str a] H (IWP H rs (hasK em) a) := by
  obtain ⟨cd, PC⟩ := gcls P
  obtain ⟨inst, ns, atab, aemp, n1, tab, isT, emp, lst⟩ := I
  obtain ⟨va, hva, hEa⟩ := isT.some ha
  refine XC.def (n := 4) (ps := ["grammar", "name"]) G (by k_is) (by k_is) rfl rfl (ar2 fun _ _ => rfl) (by decide) (by decide) (by decide) rfl rfl rfl ?_
  refine XS.skip (by walk_at "tr") ?_
  refine XS.assign (Ev.list (vs := [va]) (EvL.cons (Ev.subD (by walk_at "ev") (by walk_at "ev") tab hva hs_n) EvL.nil) (by simp)) rfl (by decide) ?_
  refine XS.assign Ev.dict0 rfl (by decide) ?_
  dsimp only
  rw [show H ++ [AObj.list [va]] ++ [AObj.dict []] = HW H [va] [] by simp [HW], show (H ++ [AObj.list [va]]).length = H.length + 1 by simp]
  have hszE : sz ea ≤ 100 := hsz _ (eget_mem ha)
  have hub := uns_bound (s := hasK []) (rs := rs) hsz
  have hub2 : (100 + 1) * rs.length ≤ 404 := by omega
  refine XS.while_ (IW1 H rs (hasK em) a gi)
    (fun m st h => ?_) _ ⟨[ea], [va], [], _, rfl, ⟨⟨hEa, trivial⟩, fun e he => by rw [List.mem_singleton.mp he]; exact hlow a ea ha, TokD.nil, rfl, by rw [szs, szs]; omega, fun e he x hx => by rw [List.mem_singleton.mp he] at hx; exact .one ha hx, fun y hy => by simp [hasK, aget] at hy,
      fun y e hy he x hx => .inr ⟨ea, by simp, by
        rcases hy with rfl | hy
        · rw [ha] at he; cases he; exact hx
        · simp [hasK, aget] at hy⟩⟩, rfl, rfl, rfl, rfl⟩
  obtain ⟨es, wv, sv, l, rfl, S, q1, q2, q3, q4⟩ := h
  have hww := HW_w (H := H) (wv := wv) (sv := sv)
  have hlw : wv.length ≤ 1000 := by
    have h1 := S.tree.length
    have h2 := len_szs es
    have h3 := S.meas
    have h4 := S.bound
    omega
  by_cases hemp : wv = []
  · subst hemp
    have hes := S.tree.inv_nil
    subst hes
    refine .inl ⟨_, Tr.cmp0 (by walk_at "ev") Ev.int (op_gti' (by simp)) hm_gt, ?_⟩
    refine XS.ret (v := .bool false) (by walk_at "ev") ?_
    refine ⟨false, rfl, ⟨fun h => (by cases h), fun h => ?_⟩, HW_kp⟩
    exfalso
    have key : ∀ x, Rch rs (hasK em) a x → x ≠ a ∧ (eget rs x = none ∨ hasK sv x = true) := fun x hx => by
      induction hx with
      | one he hx =>
        rcases S.full a _ (.inl rfl) he _ hx with h | ⟨_, h, _⟩
        · exact h
        · simp at h
      | step _ he hx ih =>
        obtain ⟨_, h2⟩ := ih
        rcases h2 with h2 | h2
        · rw [h2] at he; cases he
        · rcases S.full _ _ (.inr h2) he _ hx with h | ⟨_, h, _⟩
          · exact h
          · simp at h
    exact (key a h).1 rfl
  · obtain ⟨es', e, wv', v, rfl, rfl, ht, hE⟩ := S.tree.last hemp
    refine .inr ⟨_, Tr.cmp0 (by walk_at "ev") Ev.int (op_gti' (c := true) (by rw [List.length_append, List.length_singleton]; simp)) hm_gt, ?_⟩
    refine XS.assign (Ev.pop (v := v) (vs := wv') (by walk_at "ev") hww (by simp at hlw; exact Nat.le_trans (by assumption) (by decide)) (fun _ => rfl)) rfl (by decide) ?_
    dsimp only
    rw [HW_sw]
    have hww' := HW_w (H := H) (wv := wv') (sv := sv)
    have hss' := HW_s (H := H) (wv := wv') (sv := sv)
    have again : ∀ (new : List E) (nv : List AVal) (l' : Str → Option AVal), IsEs H new nv → (∀ e' ∈ new, hgt e' ≤ 2) → (∀ x, x ∈ fr (hasK em) e ↔ ∃ e' ∈ new, x ∈ fr (hasK em) e') → szs new < sz e →
        l' "waiting" = some (.ref H.length) → l' "seen" = some (.ref (H.length + 1)) → l' "grammar" = some (.ref gi) → l' "name" = some (.str a) →
        ∃ m', m' < m ∧ IW1 H rs (hasK em) a gi m' ⟨HW H (wv' ++ nv) sv, l'⟩ :=
      fun new nv l' hn hl hf hs p1 p2 p3 p4 => by
        obtain ⟨m', hm', S'⟩ := S.again ht hn hl hf hs
        exact ⟨m', hm', _, _, _, _, rfl, S', p1, p2, p3, p4⟩
    have hle := S.low e (by simp)
    have hlw' : wv'.length ≤ 1000 := by simp at hlw; exact Nat.le_trans (by assumption) (by decide)
    have r1 : upd l "e" v "waiting" = some (.ref H.length) := upd_ne (by decide) q1
    have r2 : upd l "e" v "seen" = some (.ref (H.length + 1)) := upd_ne (by decide) q2
    have r3 : upd l "e" v "grammar" = some (.ref gi) := upd_ne (by decide) q3
    have r4 : upd l "e" v "name" = some (.str a) := upd_ne (by decide) q4
    have i0 := HW_kp (wv := wv') (sv := sv) |>.at inst
    have i1 := HW_kp (wv := wv') (sv := sv) |>.at ns
    have i2 := HW_kp (wv := wv') (sv := sv) |>.at tab
    cases e with
    | name x =>
      obtain ⟨i, rfl, hi0⟩ := id hE
      have hi := HW_kp (wv := wv') (sv := sv) |>.at hi0
      refine XS.ifT (by walk_at "tr") ?_
      by_cases hxa : x = a
      · subst hxa
        refine XS.ifT (Tr.cmp0 (by walk_at "ev") (by walk_at "ev") (op_eqs' (by simp)) hm_name) ?_
        refine XS.ret (v := .bool true) (by walk_at "ev") ?_
        exact ⟨⟨⟨true, rfl, ⟨fun _ => S.sound (.name x) (by simp) x (by rw [fr]; simp), fun _ => rfl⟩, HW_kp⟩, by simp⟩, by simp⟩
      · refine XS.skip (Tr.cmp0 (by walk_at "ev") (by walk_at "ev") (op_eqs' (by simp [hxa])) hm_name) ?_
        cases hx : eget rs x with
        | none =>
          have hn := isT.none hx
          refine XS.skip (Tr.and_f (by walk_at "tr")) ?_
          obtain ⟨m', hm', S'⟩ := S.skip ht hxa (.inl hx)
          refine XS.nil ⟨XS.nil ⟨m', hm', es', wv', sv, _, rfl, S', r1, r2, r3, r4⟩, by simp⟩
        | some ex =>
          obtain ⟨vx, hvx, hvE⟩ := isT.some hx
          cases hse : aget sv x with
          | some u =>
            refine XS.skip (Tr.and_t (by walk_at "tr") (Tr.and_f (by walk_at "tr"))) ?_
            obtain ⟨m', hm', S'⟩ := S.skip ht hxa (.inr (by unfold hasK; rw [hse]; rfl))
            refine XS.nil ⟨XS.nil ⟨m', hm', es', wv', sv, _, rfl, S', r1, r2, r3, r4⟩, by simp⟩
          | none =>
            have hkl := S.keys.len
            refine XS.ifT (Tr.and_t (by walk_at "tr") (Tr.and_t (by walk_at "tr") Tr.and_nil)) ?_
            refine XS.next (Ex.setItem (v1 := .bool true) (v3 := .str x) (by walk_at "ev") (by walk_at "ev") (by walk_at "ev") (op_setD hss' (by simp at hkl; exact om8' (by assumption) (by assumption) (by decide)))) ?_
            dsimp only
            rw [HW_ss]
            have g0 := HW_kp (wv := wv') (sv := aput sv x (.bool true)) |>.at inst
            have g1 := HW_kp (wv := wv') (sv := aput sv x (.bool true)) |>.at ns
            have g2 := HW_kp (wv := wv') (sv := aput sv x (.bool true)) |>.at tab
            have gw := HW_w (H := H) (wv := wv') (sv := aput sv x (.bool true))
            have hi' := HW_kp (wv := wv') (sv := aput sv x (.bool true)) |>.at hi0
            refine' XS.expr (Ev.append (v := vx) (st1 := ⟨HW H wv' (aput sv x (.bool true)), upd l "e" (.ref i)⟩) (st2 := ⟨HW H wv' (aput sv x (.bool true)), upd l "e" (.ref i)⟩) ?n1 gw ?n2 gw (by exact Nat.le_trans (by assumption) (by decide)) (fun _ => rfl)) ?n3
            case n1 => walk_at "ev"
            case n2 => exact Ev.subD (by walk_at "ev") (by walk_at "ev") g2 hvx hs_s
            dsimp only
            rw [HW_sw]
            obtain ⟨m', hm', S'⟩ := S.mark ht hxa hx (by unfold hasK; rw [hse]; rfl) hvE (hlow x ex hx)
            exact XS.nil ⟨XS.nil ⟨XS.nil ⟨m', hm', _, _, _, _, rfl, S', r1, r2, r3, r4⟩, by simp⟩, by simp⟩
    | text x =>
      obtain ⟨i, rfl, hi0⟩ := id hE
      have hi := HW_kp (wv := wv') (sv := sv) |>.at hi0
      refine XS.ifF (by walk_at "tr") ?_
      refine XS.ifF (Tr.or_f (by walk_at "tr") (Tr.or_f (by walk_at "tr") Tr.or_nil)) ?_
      refine XS.ifF (by walk_at "tr") ?_
      refine XS.skip (by walk_at "tr") ?_
      refine XS.nil ⟨XS.nil ⟨XS.nil ⟨XS.nil ?_, by simp⟩, by simp⟩, by simp⟩
      have := again [] [] _ (trivial) (fun e' he => by simp at he) (fun x => by rw [fr]; simp) (by rw [szs, sz]; decide) r1 r2 r3 r4
      rw [List.append_nil] at this
      exact this
    | opt e1 =>
      obtain ⟨i, u, rfl, hi0, hu⟩ := id hE
      have hi := HW_kp (wv := wv') (sv := sv) |>.at hi0
      refine XS.ifF (by walk_at "tr") ?_
      refine XS.ifT (Tr.or_t (by walk_at "tr")) ?_
      refine' XS.expr (Ev.append (v := u) (st1 := ⟨HW H wv' sv, upd l "e" (.ref i)⟩) (st2 := ⟨HW H wv' sv, upd l "e" (.ref i)⟩) ?opt1 hww' ?opt2 hww' (by exact Nat.le_trans (by assumption) (by decide)) (fun _ => rfl)) ?opt3
      case opt1 => walk_at "ev"
      case opt2 => walk_at "ev"
      dsimp only
      rw [HW_sw]
      refine XS.nil ⟨XS.nil ⟨XS.nil ?_, by simp⟩, by simp⟩
      refine again [e1] [u] _ ⟨hu, trivial⟩ (fun e' he => by rw [List.mem_singleton.mp he]; rw [hgt] at hle; exact Nat.le_of_lt (by assumption)) (fun x => by rw [fr]; simp) (by rw [szs, szs, sz]; exact Nat.le_refl _) r1 r2 r3 r4
    | rep e1 =>
      obtain ⟨i, u, rfl, hi0, hu⟩ := id hE
      have hi := HW_kp (wv := wv') (sv := sv) |>.at hi0
      refine XS.ifF (by walk_at "tr") ?_
      refine XS.ifT (Tr.or_f (by walk_at "tr") (Tr.or_t (by walk_at "tr"))) ?_
      refine' XS.expr (Ev.append (v := u) (st1 := ⟨HW H wv' sv, upd l "e" (.ref i)⟩) (st2 := ⟨HW H wv' sv, upd l "e" (.ref i)⟩) ?rep1 hww' ?rep2 hww' (by exact Nat.le_trans (by assumption) (by decide)) (fun _ => rfl)) ?rep3
      case rep1 => walk_at "ev"
      case rep2 => walk_at "ev"
      dsimp only
      rw [HW_sw]
      refine XS.nil ⟨XS.nil ⟨XS.nil ?_, by simp⟩, by simp⟩
      refine again [e1] [u] _ ⟨hu, trivial⟩ (fun e' he => by rw [List.mem_singleton.mp he]; rw [hgt] at hle; exact Nat.le_of_lt (by assumption)) (fun x => by rw [fr]; simp) (by rw [szs, szs, sz]; exact Nat.le_refl _) r1 r2 r3 r4
    | alt items =>
      obtain ⟨i, j, us, rfl, hi0, hj0, hu⟩ := id hE
      have hi := HW_kp (wv := wv') (sv := sv) |>.at hi0
      have hj := HW_kp (wv := wv') (sv := sv) |>.at hj0
      have hul : us.length ≤ 1000 := by
        have h1 := hu.length
        have h2 := len_szs items
        have h3 := S.meas
        have h4 := S.bound
        rw [szs_append, szs, szs, sz] at h3
        omega
      refine XS.ifF (by walk_at "tr") ?_
      refine XS.ifF (Tr.or_f (by walk_at "tr") (Tr.or_f (by walk_at "tr") Tr.or_nil)) ?_
      refine XS.ifT (by walk_at "tr") ?_
      refine' XS.expr (Ev.extend (j := j) (ws := us) (st1 := ⟨HW H wv' sv, upd l "e" (.ref i)⟩) (st2 := ⟨HW H wv' sv, upd l "e" (.ref i)⟩) ?alt1 hww' ?alt2 hww' hj (by exact Nat.le_trans (by assumption) (by decide)) (by exact Nat.le_trans (by assumption) (by decide)) (fun _ => rfl)) ?alt3
      case alt1 => walk_at "ev"
      case alt2 => walk_at "ev"
      dsimp only
      rw [HW_sw]
      refine XS.nil ⟨XS.nil ⟨XS.nil ⟨XS.nil ?_, by simp⟩, by simp⟩, by simp⟩
      refine again items us _ hu (fun e' he => by have := hgt_le_hgts he; rw [hgt] at hle; exact Nat.le_of_lt (Nat.lt_of_le_of_lt (by assumption) (by assumption))) (fun x => by rw [fr, mem_frAlt]) (by rw [sz]; exact Nat.le_refl _) r1 r2 r3 r4
    | seq items =>
      obtain ⟨i, j, us, rfl, hi0, hj0, hu⟩ := id hE
      have hi := HW_kp (wv := wv') (sv := sv) |>.at hi0
      have hul : us.length ≤ 1000 := by
        have h1 := hu.length
        have h2 := len_szs items
        have h3 := S.meas
        have h4 := S.bound
        rw [szs_append, szs, szs, sz] at h3
        omega
      refine XS.ifF (by walk_at "tr") ?_
      refine XS.ifF (Tr.or_f (by walk_at "tr") (Tr.or_f (by walk_at "tr") Tr.or_nil)) ?_
      refine XS.ifF (by walk_at "tr") ?_
      refine XS.ifT (by walk_at "tr") ?_
      have fin : ∀ (dn rem : List E) (nv : List AVal) (l' : Str → Option AVal), dn ++ rem = items → IsEs H dn nv → (∀ x, x ∈ frSeq (hasK em) items ↔ ∃ e' ∈ dn, x ∈ fr (hasK em) e') →
          l' "waiting" = some (.ref H.length) → l' "seen" = some (.ref (H.length + 1)) → l' "grammar" = some (.ref gi) → l' "name" = some (.str a) →
          ∃ m', m' < m ∧ IW1 H rs (hasK em) a gi m' ⟨HW H (wv' ++ nv) sv, l'⟩ :=
        fun dn rem nv l' hd hn hf => again dn nv l' hn (fun e' he => by have := hgt_le_hgts (es := items) (e := e') (by rw [← hd]; exact List.mem_append_left _ he); rw [hgt] at hle; exact Nat.le_of_lt (Nat.lt_of_le_of_lt (by assumption) (by assumption))) (fun x => by rw [fr]; exact hf x) (by
          have : szs items = szs dn + szs rem := by rw [← hd, szs_append]
          rw [sz]; omega)
      refine XS.forL (i := j) (vs := us) (by walk_at "ev") (HW_kp.at hj0) (XL.run (IW2 H (hasK em) a gi items wv' sv)
        (fun vs st h => ?_) (fun st h => ?_) (fun v vs st h => ?_) _ _ ⟨[], items, [], _, hu, rfl, trivial, by simp, by rw [List.append_nil], by simpa using hul, r1, r2, r3, r4⟩)
      · obtain ⟨dn, rem, nv, l', _, _, _, _, rfl, _⟩ := h; exact HW_kp.at hj0
      · obtain ⟨dn, rem, nv, l', h1, h2, h3, h4, rfl, _, p1, p2, p3, p4⟩ := h
        cases h1.inv_nil
        refine XS.nil ⟨XS.nil ⟨XS.nil ⟨XS.nil ⟨XS.nil ?_, by simp⟩, by simp⟩, by simp⟩, by simp⟩
        refine fin dn [] nv l' h2 h3 (fun x => ?_) p1 p2 p3 p4
        rw [← h2, frSeq_all h4]; simp [frSeq]
      · obtain ⟨dn, rem, nv, l', h1, h2, h3, h4, rfl, hln, p1, p2, p3, p4⟩ := h
        obtain ⟨e1, rem, rfl, he1, hrem⟩ := h1.inv_cons
        simp only [List.length_cons] at hln
        have gw := HW_w (H := H) (wv := wv' ++ nv) (sv := sv)
        have hmem : e1 ∈ items := by rw [← h2]; simp
        have hh1 : hgt e1 ≤ 2 := by have := hgt_le_hgts hmem; rw [hgt] at hle; exact Nat.le_of_lt (Nat.lt_of_le_of_lt (by assumption) (by assumption))
        refine ⟨_, As.name rfl (by decide), ?_⟩
        refine' XS.expr (Ev.append (v := v) (st1 := ⟨HW H (wv' ++ nv) sv, upd l' "item" v⟩) (st2 := ⟨HW H (wv' ++ nv) sv, upd l' "item" v⟩) ?seq1 gw ?seq2 gw (by simp; omega) (fun _ => rfl)) ?seq3
        case seq1 => walk_at "ev"
        case seq2 => walk_at "ev"
        dsimp only
        rw [HW_sw, List.append_assoc]
        have k0 := HW_kp (wv := wv' ++ (nv ++ [v])) (sv := sv) |>.at inst
        have k1 := HW_kp (wv := wv' ++ (nv ++ [v])) (sv := sv) |>.at ns
        have k2 := HW_kp (wv := wv' ++ (nv ++ [v])) (sv := sv) |>.at emp
        have hc := (nullable_spec (w := w) G k0 k1 atab aemp k2 hh1 (he1.kp HW_kp Wr.nil)).get
        have hdn : IsEs H (dn ++ [e1]) (nv ++ [v]) := IsEs.append (IsEs.one he1) h3
        cases hb : mbe (hasK em) e1 with
        | true =>
          rw [hb] at hc
          refine XS.skip (Tr.not_f (Tr.valb (Ev.meth (H' := HW H (wv' ++ (nv ++ [v])) sv) G PC (by walk_at "ev") k0 k1 (by k_is) (by k_is) (by k_is) n1 (by walk_at "evl") hc (by intro _ _; rfl) (fun _ => rfl)))) ?_
          refine XS.nil ?_
          dsimp only [Turn]
          exact ⟨dn ++ [e1], rem, _, _, hrem, by rw [← h2]; simp, hdn, fun d hd => by
            rcases List.mem_append.mp hd with h | h
            · exact h4 d h
            · rw [List.mem_singleton.mp h]; exact hb, rfl, by simp; exact om6 (by assumption) (by first | exact Nat.le_refl _ | decide), upd_ne (by decide) p1, upd_ne (by decide) p2, upd_ne (by decide) p3, upd_ne (by decide) p4⟩
        | false =>
          rw [hb] at hc
          refine XS.ifT (Tr.not_t (Tr.valb (Ev.meth (H' := HW H (wv' ++ (nv ++ [v])) sv) G PC (by walk_at "ev") k0 k1 (by k_is) (by k_is) (by k_is) n1 (by walk_at "evl") hc (by intro _ _; rfl) (fun _ => rfl)))) ?_
          refine XS.brk ⟨?_, by simp⟩
          dsimp only [Turn, After]
          refine XS.nil ⟨XS.nil ⟨XS.nil ⟨XS.nil ⟨XS.nil ?_, by simp⟩, by simp⟩, by simp⟩, by simp⟩
          refine fin (dn ++ [e1]) rem (nv ++ [v]) _ (by rw [← h2]; simp) hdn (fun x => ?_) (upd_ne (by decide) p1) (upd_ne (by decide) p2) (upd_ne (by decide) p3) (upd_ne (by decide) p4)
          rw [← h2, frSeq_all h4, frSeq, hb]
          simp only [Bool.false_eq_true, if_false, List.append_nil, List.mem_append, List.mem_singleton]
          constructor
          · rintro (⟨e', h5, h6⟩ | h5)
            · exact ⟨e', .inl h5, h6⟩
            · exact ⟨e1, .inr rfl, h5⟩
          · rintro ⟨e', h5 | rfl, h6⟩
            · exact .inl ⟨e', h5, h6⟩
            · exact .inr h6
end
end

section
variable {w : World} {b₀ : Heap} {n : Nat} {P : Params} {H : List AObj}

theorem fm_bound {a b : Int} (hb : 0 < b) : 0 ≤ a.fmod b ∧ a.fmod b < b := by
  rw [Int.fmod_eq_emod_of_nonneg _ (by omega)]
  exact ⟨Int.emod_nonneg _ (by omega), Int.emod_lt_of_pos _ hb⟩
theorem fd_bound {a : Int} (h0 : 0 ≤ a) (h : a < 2401) : 0 ≤ a.fdiv 343 ∧ a.fdiv 343 < 7 := by
  rw [Int.fdiv_eq_ediv_of_nonneg _ (by decide)]
  omega
theorem py7 {a : Int} : Builtin.divisionGoesByPylong a 7 = false := by
  unfold Builtin.divisionGoesByPylong
  dsimp only
  rw [show (decide ((if ((7 : Int) == 0) = true then 0 else (7 : Int).natAbs.log2 / 30 + 1) > 300)) = false by decide +kernel]
  rfl
theorem py49 {a : Int} : Builtin.divisionGoesByPylong a 49 = false := by
  unfold Builtin.divisionGoesByPylong
  dsimp only
  rw [show (decide ((if ((49 : Int) == 0) = true then 0 else (49 : Int).natAbs.log2 / 30 + 1) > 300)) = false by decide +kernel]
  rfl
theorem py343 {a : Int} : Builtin.divisionGoesByPylong a 343 = false := by
  unfold Builtin.divisionGoesByPylong
  dsimp only
  rw [show (decide ((if ((343 : Int) == 0) = true then 0 else (343 : Int).natAbs.log2 / 30 + 1) > 300)) = false by decide +kernel]
  rfl

def Beads (bs : List Int) : Prop := ∀ b ∈ bs, 0 ≤ b ∧ b < 7

inductive BD1 (H : List AObj) (zs : List Int) (vs : List AVal) (st : ASt) : Prop
  | mk : ∀ (rem bs : List Int) (H1 : List AObj) (l1 : Str → Option AVal), vs = rem.map AVal.int → st = ⟨H1, l1⟩ → Kp [] H H1 → H1[H.length]? = some (.list (bs.map .int)) → Beads bs → bs.length + 4 * rem.length ≤ 400 → H1[H.length + 1]? = some (.list (zs.map .int)) → l1 "beads" = some (.ref H.length) → BD1 H zs vs st
inductive BD2 (H : List AObj) (vs : List AVal) (st : ASt) : Prop
  | mk : ∀ (ks : List Nat) (bs1 : List Int) (t : Int) (H2 : List AObj) (l2 : Str → Option AVal), vs = ks.map (fun k : Nat => AVal.int (k : Int)) → st = ⟨H2, l2⟩ → Kp [] H H2 → H2[H.length]? = some (.list (bs1.map .int)) → Beads bs1 → 140 ≤ bs1.length + ks.length → bs1.length + ks.length ≤ 1000 → l2 "turn" = some (.int t) → 0 ≤ t → l2 "beads" = some (.ref H.length) → BD2 H vs st
inductive BDP (H : List AObj) (r : AVal) (H' : List AObj) : Prop
  | mk : ∀ (f : Nat) (bs : List Int), r = .ref f → H'[f]? = some (.list (bs.map .int)) → Beads bs → 140 ≤ bs.length → bs.length ≤ 1000 → Kp [] H H' → BDP H r H'
theorem beads_spec {l : Addr} {zs : List Int} {us : List Value} (G : Glo (hd.heap_39 P) b₀) (hl : b₀.IsList l (List.toArray us)) (hv : VRs [] (zs.map .int) us) (hz : zs.length ≤ 63) :
    XC w b₀ 5 (.val (.ref 140)) [.val (.ref l)] H (BDP H) := by
  have hul : us.length = zs.length := by have := hv.length; simpa using this
  refine XC.def (n := 4) (ps := ["script"]) G (by k_is) (by k_is) rfl rfl (ar1 fun _ => rfl) (by decide) (by decide) (by decide) rfl rfl rfl ?_
  refine XS.assign (Ev.list EvL.nil (by simp)) rfl (by decide) ?_
  dsimp only
  have hb0 : (H ++ [AObj.list []])[H.length]? = some (.list []) := app_at
  have htk : (zs.map AVal.int).take 70 = zs.map AVal.int := by rw [List.take_of_length_le]; simp; exact Nat.le_trans (by assumption) (by decide)
  refine' XS.forL (i := H.length + 1) (vs := zs.map .int) (st1 := ⟨H ++ [.list []] ++ [.list (zs.map .int)], upd (fun x => List.lookup x (((["script"] : List Str)).zip [AVal.val (.ref l)])) "beads" (.ref H.length)⟩) ?src (by simp) (XL.run (BD1 H zs)
    (fun vs st h => ?b1) (fun st h => ?b2) (fun v vs st h => ?b3) _ _ ⟨zs, [], _, _, rfl, rfl, (Kp.refl.app _).app _, app_lt app_at, (fun b hb => by simp at hb), by simp; omega, by simp, rfl⟩)
  case src =>
    rw [show H.length + 1 = (H ++ [AObj.list []]).length by simp, ← htk]
    exact Ev.sliceS hl hv (by omega) (Ev.loc rfl rfl rfl) Ev.int
  case b1 => obtain ⟨rem, bs, H1, l1, _, rfl, _, _, _, _, h, _⟩ := h; exact h
  case b3 =>
    obtain ⟨rem, bs, H1, l1, hvs, rfl, hK, hb, hbs, hlen, hs, q1⟩ := h
    replace hvs := cons_map hvs
    obtain ⟨z, rem, rfl, rfl, rfl⟩ := hvs
    refine ⟨_, As.name rfl (by decide), ?_⟩
    simp only [List.length_cons] at hlen
    refine XS.assign (v := .int (z.fmod 2401)) (Ev.bin0 (Ev.call0 (by walk_at "ev") callForm_T (by walk_at "evl") call_int (by intro _ _; rfl)) Ev.int (op_mod (by decide))) rfl (by decide) ?_
    have hf := fm_bound (a := z) (b := 2401) (by decide)
    generalize z.fmod 2401 = fg at *
    dsimp only
    refine XS.next (Ex.aug (v1 := .ref H.length) (v2 := .ref H1.length) (v := .ref H.length) (st1 := ⟨H1 ++ [.list ([fg.fmod 7, (fg.fdiv 7).fmod 7, (fg.fdiv 49).fmod 7, fg.fdiv 343].map AVal.int)], upd (upd l1 "cell" (.int z)) "figure" (.int fg)⟩) (by walk_at "hyp") rfl (by decide)
      (Ev.list (st1 := ⟨H1, upd (upd l1 "cell" (.int z)) "figure" (.int fg)⟩) (EvL.cons (Ev.bin0 (by walk_at "ev") Ev.int (op_mod (by decide))) (EvL.cons (Ev.bin0 (Ev.bin0 (by walk_at "ev") Ev.int (op_fdiv (by decide) py7)) Ev.int (op_mod (by decide)))
        (EvL.cons (Ev.bin0 (Ev.bin0 (by walk_at "ev") Ev.int (op_fdiv (by decide) py49)) Ev.int (op_mod (by decide))) (EvL.cons (Ev.bin0 (by walk_at "ev") Ev.int (op_fdiv (by decide) py343)) EvL.nil)))) (by simp))
      (op_iadd (app_lt hb) app_at (by simp; exact om3 (by assumption) (by first | exact Nat.le_refl _ | decide)) (by simp))) ?_
    refine XS.nil ?_
    dsimp only [Turn]
    have hltb := lt_of_at hb
    have hlts := lt_of_at hs
    refine ⟨rem, bs ++ [fg.fmod 7, (fg.fdiv 7).fmod 7, (fg.fdiv 49).fmod 7, fg.fdiv 343], _, _, rfl, rfl, (hK.app _).set (.inr (Nat.le_refl _)), ?_, ?_, by simp; omega, set_ne (by omega) (app_lt hs), upd_eq⟩
    · rw [List.map_append]; exact set_at (app_lt hb)
    · intro b hb'
      rcases List.mem_append.mp hb' with h | h
      · exact hbs b h
      · simp only [List.mem_cons, List.not_mem_nil, or_false] at h
        rcases h with rfl | rfl | rfl | rfl
        · exact fm_bound (by decide)
        · exact fm_bound (by decide)
        · exact fm_bound (by decide)
        · exact fd_bound hf.1 hf.2
  case b2 =>
    obtain ⟨rem, bs, H1, l1, hvs, rfl, hK, hb, hbs, hlen, hs, q1⟩ := h
    have hcl := call_lenL (n := 4) (w := w) (b₀ := b₀) hb (by simp; exact om3 (by assumption) (by first | exact Nat.le_refl _ | decide))
    rw [List.length_map] at hcl
    refine XS.assign (v := .int (1 + ((bs.length : Nat) : Int).fmod 5)) (Ev.bin0 Ev.int (Ev.bin0 (by walk_at "ev") Ev.int (op_mod (by decide))) op_add) rfl (by decide) ?_
    have hm5 := fm_bound (a := ((bs.length : Nat) : Int)) (b := 5) (by decide)
    have ht0 : 0 ≤ 1 + ((bs.length : Nat) : Int).fmod 5 := by omega
    generalize 1 + ((bs.length : Nat) : Int).fmod 5 = t0 at *
    dsimp only
    refine' XS.for_ (P := protN w b₀ (140 - ((bs.length : Nat) : Int)).toNat) (st1 := ⟨H1, upd l1 "turn" (.int t0)⟩) (Src.range (z := 140 - ((bs.length : Nat) : Int)) (by omega) (by omega) ?r1 ?r2) (XL.run (BD2 H)
      (fun vs st h => trivial) (fun st h => ?r3) (fun v vs st h => ?r4) _ _ ⟨List.range (140 - ((bs.length : Nat) : Int)).toNat, bs, t0, H1, _, rfl, rfl, hK, hb, hbs, by rw [List.length_range]; omega, by rw [List.length_range]; omega, upd_eq, ht0, upd_ne (by decide) q1⟩)
    case r1 => walk_at "ev"
    case r2 => exact Ev.bin0 Ev.int (by walk_at "ev") op_sub
    case r3 =>
      obtain ⟨ks, bs1, t, H2, l2, hks, rfl, hK2, hb2, hbs2, hl1, hl2, q2, ht, q3⟩ := h
      obtain rfl := nil_map hks
      exact XS.ret (v := .ref H.length) (by walk_at "ev") (by exact ⟨_, bs1, rfl, hb2, hbs2, by simpa using hl1, by simpa using hl2, hK2⟩)
    case r4 =>
      obtain ⟨ks, bs1, t, H2, l2, hks, rfl, hK2, hb2, hbs2, hl1, hl2, q2, ht, q3⟩ := h
      replace hks := cons_map hks
      obtain ⟨k, ks, rfl, rfl, rfl⟩ := hks
      simp only [List.length_cons] at hl1 hl2
      refine ⟨_, As.name rfl (by decide), ?_⟩
      refine XS.assign (v := .int ((t * 13 + 8 + (k : Int).fmod 3).fmod 101)) (Ev.bin0 (Ev.bin0 (Ev.bin0 (Ev.bin0 (by walk_at "ev") Ev.int (op_mul (IntMulOk.of_right (by decide +kernel)))) Ev.int op_add) (Ev.bin0 (by walk_at "ev") Ev.int (op_mod (by decide))) op_add) Ev.int (op_mod (by decide))) rfl (by decide) ?_
      have htb := fm_bound (a := t * 13 + 8 + (k : Int).fmod 3) (b := 101) (by decide)
      generalize (t * 13 + 8 + (k : Int).fmod 3).fmod 101 = t1 at *
      dsimp only
      refine' XS.expr (Ev.append (v := .int (t1.fmod 7)) (st1 := ⟨H2, upd (upd l2 "each" (.int (k : Int))) "turn" (.int t1)⟩) (st2 := ⟨H2, upd (upd l2 "each" (.int (k : Int))) "turn" (.int t1)⟩) ?t1 hb2 ?t2 hb2 (by simp; exact om3 (by assumption) (by first | exact Nat.le_refl _ | decide)) (fun _ => rfl)) ?t3
      case t1 => walk_at "ev"
      case t2 => exact Ev.bin0 (by walk_at "ev") Ev.int (op_mod (by decide))
      refine XS.nil ?_
      dsimp only [Turn]
      refine ⟨ks, bs1 ++ [t1.fmod 7], t1, _, _, rfl, rfl, hK2.set (.inr (Nat.le_refl _)), ?_, ?_, by simp; omega, by simp; exact om6 (by assumption) (by first | exact Nat.le_refl _ | decide), upd_eq, htb.1, upd_ne (by decide) (upd_ne (by decide) q3)⟩
      · rw [List.map_append]; exact set_at hb2
      · intro b hb'
        rcases List.mem_append.mp hb' with h | h
        · exact hbs2 b h
        · rw [List.mem_singleton.mp h]; exact fm_bound (by decide)
end

/- trees all of whose nodes stand at L or above -/
mutual
def IsEF (L : Nat) (H : List AObj) : E → AVal → Prop
  | .name x, v => ∃ i, v = .ref i ∧ L ≤ i ∧ H[i]? = some (.tup [.str "name", .str x])
  | .text x, v => ∃ i, v = .ref i ∧ L ≤ i ∧ H[i]? = some (.tup [.str "text", .str x])
  | .opt e, v => ∃ i u, v = .ref i ∧ L ≤ i ∧ H[i]? = some (.tup [.str "opt", u]) ∧ IsEF L H e u
  | .rep e, v => ∃ i u, v = .ref i ∧ L ≤ i ∧ H[i]? = some (.tup [.str "rep", u]) ∧ IsEF L H e u
  | .seq es, v => ∃ i j us, v = .ref i ∧ L ≤ i ∧ L ≤ j ∧ H[i]? = some (.tup [.str "seq", .ref j]) ∧ H[j]? = some (.list us) ∧ IsEFs L H es us
  | .alt es, v => ∃ i j us, v = .ref i ∧ L ≤ i ∧ L ≤ j ∧ H[i]? = some (.tup [.str "alt", .ref j]) ∧ H[j]? = some (.list us) ∧ IsEFs L H es us
def IsEFs (L : Nat) (H : List AObj) : List E → List AVal → Prop
  | [], [] => True
  | e :: es, v :: vs => IsEF L H e v ∧ IsEFs L H es vs
  | _, _ => False
end
mutual
theorem IsEF.isE {L : Nat} {H : List AObj} : ∀ (e : E) (v : AVal), IsEF L H e v → IsE H e v
  | .name x, v, ⟨i, e, _, h1⟩ => ⟨i, e, h1⟩
  | .text x, v, ⟨i, e, _, h1⟩ => ⟨i, e, h1⟩
  | .opt e, v, ⟨i, u, hv, _, h1, h2⟩ => ⟨i, u, hv, h1, IsEF.isE e u h2⟩
  | .rep e, v, ⟨i, u, hv, _, h1, h2⟩ => ⟨i, u, hv, h1, IsEF.isE e u h2⟩
  | .seq es, v, ⟨i, j, us, hv, _, _, h1, h2, h3⟩ => ⟨i, j, us, hv, h1, h2, IsEFs.isEs es us h3⟩
  | .alt es, v, ⟨i, j, us, hv, _, _, h1, h2, h3⟩ => ⟨i, j, us, hv, h1, h2, IsEFs.isEs es us h3⟩
theorem IsEFs.isEs {L : Nat} {H : List AObj} : ∀ (es : List E) (vs : List AVal), IsEFs L H es vs → IsEs H es vs
  | [], [], _ => trivial
  | e :: es, v :: vs, h => ⟨IsEF.isE e v h.1, IsEFs.isEs es vs h.2⟩
  | [], _ :: _, h => False.elim h
  | _ :: _, [], h => False.elim h
end
mutual
theorem IsEF.keep {L L' : Nat} {H H' : List AObj} (hL : L' ≤ L) (hk : ∀ i o, L ≤ i → H[i]? = some o → H'[i]? = some o) : ∀ (e : E) (v : AVal), IsEF L H e v → IsEF L' H' e v
  | .name x, v, ⟨i, e, a, h1⟩ => ⟨i, e, Nat.le_trans hL a, hk _ _ a h1⟩
  | .text x, v, ⟨i, e, a, h1⟩ => ⟨i, e, Nat.le_trans hL a, hk _ _ a h1⟩
  | .opt e, v, ⟨i, u, hv, a, h1, h2⟩ => ⟨i, u, hv, Nat.le_trans hL a, hk _ _ a h1, IsEF.keep hL hk e u h2⟩
  | .rep e, v, ⟨i, u, hv, a, h1, h2⟩ => ⟨i, u, hv, Nat.le_trans hL a, hk _ _ a h1, IsEF.keep hL hk e u h2⟩
  | .seq es, v, ⟨i, j, us, hv, a, b, h1, h2, h3⟩ => ⟨i, j, us, hv, Nat.le_trans hL a, Nat.le_trans hL b, hk _ _ a h1, hk _ _ b h2, IsEFs.keep hL hk es us h3⟩
  | .alt es, v, ⟨i, j, us, hv, a, b, h1, h2, h3⟩ => ⟨i, j, us, hv, Nat.le_trans hL a, Nat.le_trans hL b, hk _ _ a h1, hk _ _ b h2, IsEFs.keep hL hk es us h3⟩
theorem IsEFs.keep {L L' : Nat} {H H' : List AObj} (hL : L' ≤ L) (hk : ∀ i o, L ≤ i → H[i]? = some o → H'[i]? = some o) : ∀ (es : List E) (vs : List AVal), IsEFs L H es vs → IsEFs L' H' es vs
  | [], [], _ => trivial
  | e :: es, v :: vs, h => ⟨IsEF.keep hL hk e v h.1, IsEFs.keep hL hk es vs h.2⟩
  | [], _ :: _, h => False.elim h
  | _ :: _, [], h => False.elim h
end
theorem IsEFs.ind {L : Nat} {H : List AObj} {P : List E → List AVal → Prop} (h0 : P [] []) (h1 : ∀ e es v vs, IsEF L H e v → IsEFs L H es vs → P es vs → P (e :: es) (v :: vs)) : ∀ {es : List E} {vs : List AVal}, IsEFs L H es vs → P es vs := by
  intro es
  induction es with
  | nil => intro vs h; cases vs with | nil => exact h0 | cons _ _ => exact False.elim h
  | cons e es ih => intro vs h; cases vs with | nil => exact False.elim h | cons v vs => exact h1 _ _ _ _ h.1 h.2 (ih h.2)
theorem IsEFs.snoc {L : Nat} {H : List AObj} {e : E} {v : AVal} (h : IsEF L H e v) {es : List E} {vs : List AVal} (hh : IsEFs L H es vs) : IsEFs L H (es ++ [e]) (vs ++ [v]) :=
  hh.ind (P := fun es vs => IsEFs L H (es ++ [e]) (vs ++ [v])) ⟨h, trivial⟩ fun _ _ _ _ a _ ih => ⟨a, ih⟩
theorem IsEFs.length {L : Nat} {H : List AObj} {es : List E} {vs : List AVal} (h : IsEFs L H es vs) : vs.length = es.length :=
  h.ind (P := fun es vs => vs.length = es.length) rfl fun _ _ _ _ _ _ ih => congrArg (· + 1) ih

mutual
def okX (nm : List Str) : E → Prop
  | .name x => x ∈ nm ∨ x = "t"
  | .text x => x = "+"
  | .opt e => okX nm e
  | .rep e => okX nm e
  | .seq es => okXs nm es ∧ es.length ≤ 3
  | .alt es => okXs nm es ∧ es.length ≤ 3
def okXs (nm : List Str) : List E → Prop
  | [] => True
  | e :: es => okX nm e ∧ okXs nm es
end
theorem okXs_snoc {nm : List Str} {e : E} (h : okX nm e) : ∀ {es : List E}, okXs nm es → okXs nm (es ++ [e])
  | [], _ => by rw [List.nil_append, okXs, okXs]; exact ⟨h, trivial⟩
  | e' :: es, hh => by rw [okXs] at hh; rw [List.cons_append, okXs]; exact ⟨hh.1, okXs_snoc h hh.2⟩
theorem hgts_snoc {e : E} : ∀ {es : List E}, hgts (es ++ [e]) = max (hgts es) (hgt e)
  | [] => by simp [hgts]
  | e' :: es => by rw [List.cons_append, hgts, hgts, hgts_snoc, Nat.max_assoc]
def SZ : Nat → Nat
  | 0 => 1
  | d + 1 => 1 + 3 * SZ d
theorem SZ_pos : ∀ d, 1 ≤ SZ d
  | 0 => Nat.le_refl _
  | d + 1 => by rw [SZ]; omega
structure Tree (d : Nat) (nm : List Str) (e : E) : Prop where
  low : hgt e ≤ d
  size : sz e ≤ SZ d
  ok : okX nm e
structure Trees (d : Nat) (nm : List Str) (es : List E) : Prop where
  low : hgts es ≤ d
  size : szs es ≤ es.length * SZ d
  ok : okXs nm es
theorem Trees.nil {d : Nat} {nm : List Str} : Trees d nm [] := ⟨by rw [hgts]; omega, by rw [szs]; omega, by rw [okXs]; trivial⟩
theorem Trees.snoc {d : Nat} {nm : List Str} {es : List E} {e : E} (a : Trees d nm es) (b : Tree d nm e) : Trees d nm (es ++ [e]) :=
  ⟨by rw [hgts_snoc]; have := a.low; have := b.low; omega, by rw [szs_append, szs, szs, List.length_append, List.length_singleton, Nat.add_mul]; have := a.size; have := b.size; omega, okXs_snoc b.ok a.ok⟩
theorem Tree.opt {d : Nat} {nm : List Str} {e : E} (h : Tree d nm e) : Tree (d + 1) nm (.opt e) :=
  ⟨by rw [hgt]; have := h.low; omega, by rw [sz, SZ]; have := h.size; have := SZ_pos d; omega, by rw [okX]; exact h.ok⟩
theorem Tree.rep {d : Nat} {nm : List Str} {e : E} (h : Tree d nm e) : Tree (d + 1) nm (.rep e) :=
  ⟨by rw [hgt]; have := h.low; omega, by rw [sz, SZ]; have := h.size; have := SZ_pos d; omega, by rw [okX]; exact h.ok⟩
theorem Trees.seq {d : Nat} {nm : List Str} {es : List E} (h : Trees d nm es) (hl : es.length ≤ 3) : Tree (d + 1) nm (.seq es) :=
  ⟨by rw [hgt]; have := h.low; omega, by
    rw [sz, SZ]
    have h1 := h.size
    have h2 : es.length * SZ d ≤ 3 * SZ d := Nat.mul_le_mul_right _ hl
    omega, by rw [okX]; exact ⟨h.ok, hl⟩⟩
theorem Trees.alt {d : Nat} {nm : List Str} {es : List E} (h : Trees d nm es) (hl : es.length ≤ 3) : Tree (d + 1) nm (.alt es) :=
  ⟨by rw [hgt]; have := h.low; omega, by
    rw [sz, SZ]
    have h1 := h.size
    have h2 : es.length * SZ d ≤ 3 * SZ d := Nat.mul_le_mul_right _ hl
    omega, by rw [okX]; exact ⟨h.ok, hl⟩⟩
theorem Tree.name {d : Nat} {nm : List Str} {x : Str} (h : x ∈ nm ∨ x = "t") : Tree d nm (.name x) := ⟨by rw [hgt]; omega, by rw [sz]; exact SZ_pos d, by rw [okX]; exact h⟩
theorem Tree.text {d : Nat} {nm : List Str} : Tree d nm (.text "+") := ⟨by rw [hgt]; omega, by rw [sz]; exact SZ_pos d, by rw [okX]⟩

section
variable {w : World} {b₀ : Heap} {n : Nat} {cx cx' : Cx} {st st1 st2 st3 : ASt} {v v1 v2 v3 : AVal} {pos apos : Pos} {x : Str} {K : Frag} {H : List AObj} {f : AFlow}
theorem op_mod' {a b c : Int} (hb : b ≠ 0) (h : a.fmod b = c) : Op2 w b₀ n (binaryOp .Mod) VR (.int a) (.int b) H (.int c) H := h ▸ op_mod hb
theorem op_sub' {a b c : Int} (h : a - b = c) : Op2 w b₀ n (binaryOp .Sub) VR (.int a) (.int b) H (.int c) H := h ▸ op_sub
theorem op_eqi' {a b : Int} {c : Bool} (h : (a == b) = c) : Op2 w b₀ n (compareOp .Eq) VR (.int a) (.int b) H (.bool c) H := h ▸ op_eqi
theorem op_lti' {a b : Int} {c : Bool} (h : decide (a < b) = c) : Op2 w b₀ n (compareOp .Lt) VR (.int a) (.int b) H (.bool c) H := h ▸ op_lti
theorem Ev.listX {es : List Expr} {vs : List AVal} (h : EvL w b₀ n cx es st vs st1) (hz : vs.length ≤ 1000) : Ev w b₀ n cx (.List es pos) st (.ref st1.H.length) ⟨st1.H ++ [.lst vs], st1.loc⟩ := by
  intro A env E s ρ Q hR hE hB k
  refine wpAny_List (h A env E s ρ pos _ hR hE hB fun s1 ρ1 us y1 hB1 hv => ⟨by rw [hv.length, sizeLine_eq]; exact Nat.le_trans (by assumption) (by decide), ?_⟩)
  obtain ⟨z1, z2⟩ := push_step hB1.sim (ob := { cls := .type "list", data := .seq us.toArray }) (o := .lst vs) ⟨us, ⟨_, Heap.get?_push_size _ rfl, rfl, 0, rfl⟩, hv.mono⟩ s1.toks
  exact k _ _ _ (y1.trans z1.nil) (hB1.step z1 z2) (vr_new hB1.sim)
theorem XS.cut {t : Stmt} {ts : List Stmt} {Post : AFlow → ASt → Prop} (Mid : AFlow → ASt → Prop) (h1 : XE w b₀ n cx t st Mid) (h2 : ∀ f st', Mid f st' → After w b₀ n cx ts Post f st') : XS w b₀ n cx (t :: ts) st Post := by
  obtain ⟨f, st', h3, h4, h5⟩ := h1
  exact XS.cons ⟨f, st', h3, h2 _ _ h4, h5⟩
theorem XS.retTup2 {e1 e2 : Expr} {ts : List Stmt} {Post : AFlow → ASt → Prop} {kd : Nat} {p : Pos} (h1 : Ev w b₀ n cx e1 st v1 st1) (h2 : XV w b₀ n cx e2 st1 fun v2 st2 => Post (.ret (.ref st2.H.length)) ⟨st2.H ++ [.tup [v1, v2]], st2.loc⟩)
    (hs1 : ∀ env, starEach [e1, e2] env = (false, eval e1 env) :: starEach [e2] env) (hs2 : ∀ env, starEach [e2] env = (false, eval e2 env) :: starEach [] env) :
    XS w b₀ n cx (.Return (some (.Tuple [e1, e2] kd p)) pos :: ts) st Post := by
  obtain ⟨v2, st2, h3, h4⟩ := h2
  exact XS.ret (Ev.tup (EvL.cons h1 (EvL.cons h3 EvL.nil hs2) hs1) (by simp)) h4
theorem compBase_get {scope : Scope} {l : Str → Option AVal} (h : x ∈ freeNames scope) (hl : l x = some v) : compBase scope l x = some v := by unfold compBase; rw [if_pos h]; exact hl
end

section
variable {w : World} {b₀ : Heap} {n : Nat} {P : Params} {H : List AObj}

theorem bead_at {bs : List Int} (hb : Beads bs) (hl : 140 ≤ bs.length) {q : Nat} (hq : q < 140) : ∃ z, (bs.map AVal.int)[q]? = some (.int z) ∧ 0 ≤ z ∧ z < 7 := by
  have h : bs[q]? = some bs[q] := List.getElem?_eq_getElem (by exact Nat.le_trans (by assumption) (by assumption))
  exact ⟨bs[q], by rw [List.getElem?_map, h]; rfl, hb _ (List.getElem_mem _)⟩
theorem fm_nat {a : Int} {b : Nat} (hb : 0 < b) : ∃ q : Nat, a.fmod (b : Int) = (q : Int) ∧ q < b := by
  have h := fm_bound (a := a) (b := (b : Int)) (Int.natCast_pos.mpr hb)
  exact ⟨(a.fmod (b : Int)).toNat, (Int.toNat_of_nonneg h.1).symm, (Int.toNat_lt h.1).mpr h.2⟩
theorem adv (p : Nat) : ∃ q : Nat, ((p : Int) + 1).fmod 140 = (q : Int) ∧ q < 140 := fm_nat (a := (p : Int) + 1) (b := 140) (by decide)

section
variable {bi ai ri : Nat} {bs : List Int} {nm : List Str}

inductive EXP (H : List AObj) (ai d : Nat) (nm : List Str) (r : AVal) (H' : List AObj) : Prop
  | mk : ∀ (e : E) (p' : Nat), IsEF H.length H' e r → Tree d nm e → H'[ai]? = some (.lst [.int ((p' : Nat) : Int)]) → p' < 140 → Kp [ai] H H' → EXP H ai d nm r H'
inductive EX0 (H2 : List AObj) (z : Int) (bi ai ri k : Nat) (f : AFlow) (st' : ASt) : Prop
  | mk : ∀ (m : Nat) (l : Str → Option AVal), f = .next → st' = ⟨H2, l⟩ → m ≤ 3 → l "many" = some (.int (m : Int)) → l "form" = some (.int z) → l "beads" = some (.ref bi) → l "at" = some (.ref ai) → l "deep" = some (.int ((k + 1 : Nat) : Int)) → l "rule_names" = some (.ref ri) → EX0 H2 z bi ai ri k f st'
inductive EX1 (H H2 : List AObj) (nm : List Str) (ai k : Nat) (vs : List AVal) (Hc : List AObj) (acc : List AVal) : Prop
  | mk : ∀ (es : List E) (p : Nat), IsEFs (H2.length + 1) Hc es acc → Trees k nm es → Hc[ai]? = some (.lst [.int ((p : Nat) : Int)]) → p < 140 → Hc[H2.length]? = some (.list acc) → Kp [ai] H Hc → es.length + vs.length ≤ 3 → Kp [ai] H2 Hc → EX1 H H2 nm ai k vs Hc acc
theorem expr_spec (G : Glo (hd.heap_39 P) b₀) (hbs : Beads bs) (hbl : 140 ≤ bs.length) (hn0 : 0 < nm.length) (hn1 : nm.length ≤ 100) : ∀ (d : Nat), d ≤ 2 → ∀ (H : List AObj) (p : Nat), H[bi]? = some (.list (bs.map .int)) → H[ai]? = some (.lst [.int (p : Int)]) → p < 140 → H[ri]? = some (.list (nm.map .str)) →
    XC w b₀ (d + 1) (.val (.ref 145)) [.ref bi, .ref ai, .int (d : Int), .ref ri] H (EXP H ai d nm) := by
  intro d
  induction d using Nat.strongRecOn with
  | ind d ih =>
  intro hd2 H p hB hX hp hRn
  have hba : ai ≠ bi := by rintro rfl; rw [hX] at hB; cases hB
  have hra : ai ≠ ri := by rintro rfl; rw [hX] at hRn; cases hRn
  have hal := lt_of_at hX
  refine XC.defC (n := d) (ps := ["beads", "at", "deep", "rule_names"]) G (by k_is) (by k_is) rfl rfl (ar4 fun _ _ _ _ => rfl) (by decide) (by decide) (by decide) (by decide) rfl rfl rfl ?_
  obtain ⟨p1, hp1, hlt1⟩ := adv p
  obtain ⟨z, hz1, hz2, hz3⟩ := bead_at hbs hbl hlt1
  refine XS.next (Ex.setItem (v1 := .int (p1 : Int)) (v3 := .int 0) (Ev.bin0 (Ev.bin0 (Ev.sub0 (v2 := .int 0) (Ev.cell rfl (by decide) (by walk_at "hyp") rfl) Ev.int hX rfl (op_getX (j := 0) hX (by decide) rfl) hs_c) Ev.int op_add) Ev.int (op_mod' (by decide) hp1)) (Ev.cell rfl (by decide) (by walk_at "hyp") rfl) Ev.int (op_setX (j := 0) hX (by decide) (by simp))) ?_
  dsimp only
  have hX1 : (H.set ai (.lst ([AVal.int (p : Int)].set 0 (.int (p1 : Int)))))[ai]? = some (.lst [.int (p1 : Int)]) := set_at hX
  have hB1 : (H.set ai (.lst ([AVal.int (p : Int)].set 0 (.int (p1 : Int)))))[bi]? = some (.list (bs.map .int)) := set_ne hba hB
  have hR1 : (H.set ai (.lst ([AVal.int (p : Int)].set 0 (.int (p1 : Int)))))[ri]? = some (.list (nm.map .str)) := set_ne hra hRn
  have hK1 : Kp [ai] H (H.set ai (.lst ([AVal.int (p : Int)].set 0 (.int (p1 : Int))))) := Kp.refl.set (.inl (by simp))
  generalize H.set ai (.lst ([AVal.int (p : Int)].set 0 (.int (p1 : Int)))) = H1 at *
  refine XS.assign (v := .int z) (Ev.sub0 (Ev.cell rfl (by decide) (by walk_at "hyp") rfl) (Ev.sub0 (v2 := .int 0) (Ev.cell rfl (by decide) (by walk_at "hyp") rfl) Ev.int hX1 rfl (op_getX (j := 0) hX1 (by decide) rfl) hs_c) hB1 rfl (op_getL hB1 (by exact Nat.le_trans (by assumption) (by decide)) hz1) hs_s) rfl (by decide) ?_
  dsimp only
  obtain ⟨p2, hp2, hlt2⟩ := adv p1
  obtain ⟨y, hy1, hy2, hy3⟩ := bead_at hbs hbl hlt2
  have hX2 : (H1.set ai (.lst ([AVal.int (p1 : Int)].set 0 (.int (p2 : Int)))))[ai]? = some (.lst [.int (p2 : Int)]) := set_at hX1
  have hB2 : (H1.set ai (.lst ([AVal.int (p1 : Int)].set 0 (.int (p2 : Int)))))[bi]? = some (.list (bs.map .int)) := set_ne hba hB1
  have hR2 : (H1.set ai (.lst ([AVal.int (p1 : Int)].set 0 (.int (p2 : Int)))))[ri]? = some (.list (nm.map .str)) := set_ne hra hR1
  have hK2 : Kp [ai] H (H1.set ai (.lst ([AVal.int (p1 : Int)].set 0 (.int (p2 : Int))))) := hK1.set (.inl (by simp))
  by_cases hleaf : d = 0 ∨ z < 2
  · have hor : ∀ (E : Prop), (d = 0 → E) → (d ≠ 0 → z < 2 → E) → E := fun E h1 h2 => by
      by_cases h : d = 0
      · exact h1 h
      · exact h2 h (hleaf.resolve_left h)
    refine XS.ifT (st1 := ⟨H1, upd (fun x => List.lookup x ((["beads", "at", "deep", "rule_names"] : List Str).zip [AVal.ref bi, .ref ai, .int (d : Int), .ref ri])) "form" (.int z)⟩) (hor _ (fun h => Tr.or_t (Tr.cmp0 (by walk_at "ev") Ev.int (op_eqi' (by simp [h])) hm_eq)) fun h1 h2 => Tr.or_f (Tr.cmp0 (by walk_at "ev") Ev.int (op_eqi' (by simp; assumption)) hm_eq) (Tr.or_t (Tr.cmp0 (by walk_at "ev") Ev.int (op_lti' (by simp; assumption)) hm_lt))) ?_
    refine XS.next (Ex.setItem (v1 := .int (p2 : Int)) (v3 := .int 0) (Ev.bin0 (Ev.bin0 (Ev.sub0 (v2 := .int 0) (Ev.cell rfl (by decide) (by walk_at "hyp") rfl) Ev.int hX1 rfl (op_getX (j := 0) hX1 (by decide) rfl) hs_c) Ev.int op_add) Ev.int (op_mod' (by decide) hp2)) (Ev.cell rfl (by decide) (by walk_at "hyp") rfl) Ev.int (op_setX (j := 0) hX1 (by decide) (by simp))) ?_
    dsimp only
    generalize H1.set ai (.lst ([AVal.int (p1 : Int)].set 0 (.int (p2 : Int)))) = H2 at *
    refine XS.assign (v := .int y) (Ev.sub0 (Ev.cell rfl (by decide) (by walk_at "hyp") rfl) (Ev.sub0 (v2 := .int 0) (Ev.cell rfl (by decide) (by walk_at "hyp") rfl) Ev.int hX2 rfl (op_getX (j := 0) hX2 (by decide) rfl) hs_c) hB2 rfl (op_getL hB2 (by exact Nat.le_trans (by assumption) (by decide)) hy1) hs_s) rfl (by decide) ?_
    dsimp only
    have fin : ∀ (e : E) (us : List AVal), IsEF H.length (H2 ++ [.tup us]) e (.ref H2.length) → Tree d nm e → EXP H ai d nm (.ref H2.length) (H2 ++ [AObj.tup us]) := fun e us h1 h2 => ⟨e, p2, h1, h2, app_lt hX2, hlt2, hK2.app _⟩
    by_cases hy4 : y < 4
    · obtain ⟨q, hq1, hq2⟩ := fm_nat (a := y) hn0
      have hget : (nm.map AVal.str)[q]? = some (.str nm[q]) := by rw [List.getElem?_map, List.getElem?_eq_getElem hq2]; rfl
      have hlen := call_lenL (n := d) (w := w) (b₀ := b₀) hR2 (by simp; exact Nat.le_trans (by assumption) (by decide))
      rw [List.length_map] at hlen
      refine XS.ifT (Tr.cmp0 (by walk_at "ev") Ev.int (op_lti' (by simp; assumption)) hm_lt) ?_
      refine XS.ret (Ev.tup (vs := [.str "name", .str nm[q]]) (st1 := ⟨H2, _⟩) (EvL.cons Ev.str (EvL.cons (Ev.sub0 (Ev.cell rfl (by decide) (by walk_at "hyp") rfl) (Ev.bin0 (by walk_at "ev") (by walk_at "ev") (op_mod' (by omega) hq1)) hR2 rfl (op_getL hR2 (by exact om8' (by assumption) (by assumption) (by decide)) hget) hs_b) EvL.nil)) (by simp)) ?_
      refine ⟨⟨fin (.name nm[q]) _ ⟨H2.length, rfl, hK2.len, app_at⟩ (.name (.inl (List.getElem_mem _))), by simp⟩, by simp⟩
    · refine XS.skip (Tr.cmp0 (by walk_at "ev") Ev.int (op_lti' (by simp; omega)) hm_lt) ?_
      by_cases hy6 : y < 6
      · refine XS.ret (Ev.if_t (Tr.cmp0 (by walk_at "ev") Ev.int (op_lti' (by simp; assumption)) hm_lt) (Ev.tup (vs := [.str "text", .str "+"]) (by walk_at "evl") (by simp))) ?_
        exact ⟨fin (.text "+") _ ⟨H2.length, rfl, hK2.len, app_at⟩ .text, by simp⟩
      · refine XS.ret (Ev.if_f (Tr.cmp0 (by walk_at "ev") Ev.int (op_lti' (by simp; omega)) hm_lt) (Ev.tup (vs := [.str "name", .str "t"]) (by walk_at "evl") (by simp))) ?_
        exact ⟨fin (.name "t") _ ⟨H2.length, rfl, hK2.len, app_at⟩ (.name (.inr rfl)), by simp⟩
  · have hd0 : d ≠ 0 := fun h => hleaf (.inl h)
    have hz2' : ¬ z < 2 := fun h => hleaf (.inr h)
    obtain ⟨k, rfl⟩ : ∃ k, d = k + 1 := Nat.exists_eq_succ_of_ne_zero hd0
    refine XS.skip (Tr.or_f (Tr.cmp0 (by walk_at "ev") Ev.int (op_eqi' (by simp; omega)) hm_eq) (Tr.or_f (Tr.cmp0 (by walk_at "ev") Ev.int (op_lti' (by simp; omega)) hm_lt) Tr.or_nil)) ?_
    have hkk : ((k + 1 : Nat) : Int) - 1 = (k : Int) := by omega
    by_cases hz2' : z = 2
    · obtain ⟨r, H3, hc, e1, p3, he1, ht1, hX3, hlt3, hK3⟩ := ih k (by exact Nat.le_refl _) (by exact Nat.le_of_lt (by assumption)) H1 p1 hB1 hX1 hlt1 hR1
      refine XS.ifT (Tr.cmp0 (by walk_at "ev") Ev.int (op_eqi' (by simp [hz2'])) hm_eq) ?_
      refine' XS.ret (Ev.tup (vs := [.str "opt", r]) (st1 := ⟨H3, _⟩) (EvL.cons Ev.str (EvL.cons (Ev.callH (H := H1) ?opt1 ?opt2 (EvL.cons ?opt3 (EvL.cons ?opt4 (EvL.cons ?opt5 (EvL.cons ?opt6 EvL.nil)))) hc ?opt7) EvL.nil)) (by simp)) ?opt8
      case opt1 => walk_at "ev"
      case opt2 => exact callForm_K G (by k_is)
      case opt3 => walk_at "ev"
      case opt4 => walk_at "ev"
      case opt5 => exact Ev.bin0 (by walk_at "ev") Ev.int (op_sub' hkk)
      case opt6 => walk_at "ev"
      case opt7 => intro _ _; rfl
      refine ⟨⟨.opt e1, p3, ?_, ht1.opt, app_lt hX3, hlt3, (hK1.trans hK3).app _⟩, by simp⟩
      exact ⟨H3.length, r, rfl, (hK1.trans hK3).len, app_at, he1.keep hK1.len (fun i o _ h => app_lt h)⟩
    refine XS.skip (Tr.cmp0 (by walk_at "ev") Ev.int (op_eqi' (by simp; assumption)) hm_eq) ?_
    by_cases hz3' : z = 3
    · obtain ⟨r, H3, hc, e1, p3, he1, ht1, hX3, hlt3, hK3⟩ := ih k (by exact Nat.le_refl _) (by exact Nat.le_of_lt (by assumption)) H1 p1 hB1 hX1 hlt1 hR1
      refine XS.ifT (Tr.cmp0 (by walk_at "ev") Ev.int (op_eqi' (by simp [hz3'])) hm_eq) ?_
      refine' XS.ret (Ev.tup (vs := [.str "rep", r]) (st1 := ⟨H3, _⟩) (EvL.cons Ev.str (EvL.cons (Ev.callH (H := H1) ?rep1 ?rep2 (EvL.cons ?rep3 (EvL.cons ?rep4 (EvL.cons ?rep5 (EvL.cons ?rep6 EvL.nil)))) hc ?rep7) EvL.nil)) (by simp)) ?rep8
      case rep1 => walk_at "ev"
      case rep2 => exact callForm_K G (by k_is)
      case rep3 => walk_at "ev"
      case rep4 => walk_at "ev"
      case rep5 => exact Ev.bin0 (by walk_at "ev") Ev.int (op_sub' hkk)
      case rep6 => walk_at "ev"
      case rep7 => intro _ _; rfl
      refine ⟨⟨.rep e1, p3, ?_, ht1.rep, app_lt hX3, hlt3, (hK1.trans hK3).app _⟩, by simp⟩
      exact ⟨H3.length, r, rfl, (hK1.trans hK3).len, app_at, he1.keep hK1.len (fun i o _ h => app_lt h)⟩
    refine XS.skip (Tr.cmp0 (by walk_at "ev") Ev.int (op_eqi' (by simp; assumption)) hm_eq) ?_
    refine XS.next (Ex.setItem (v1 := .int (p2 : Int)) (v3 := .int 0) (Ev.bin0 (Ev.bin0 (Ev.sub0 (v2 := .int 0) (Ev.cell rfl (by decide) (by walk_at "hyp") rfl) Ev.int hX1 rfl (op_getX (j := 0) hX1 (by decide) rfl) hs_c) Ev.int op_add) Ev.int (op_mod' (by decide) hp2)) (Ev.cell rfl (by decide) (by walk_at "hyp") rfl) Ev.int (op_setX (j := 0) hX1 (by decide) (by simp))) ?_
    dsimp only
    generalize H1.set ai (.lst ([AVal.int (p1 : Int)].set 0 (.int (p2 : Int)))) = H2 at *
    obtain ⟨m0, hm1, hm2⟩ := fm_nat (a := y) (b := 4) (by decide)
    refine XS.assign (v := .int (m0 : Int)) (Ev.bin0 (Ev.sub0 (Ev.cell rfl (by decide) (by walk_at "hyp") rfl) (Ev.sub0 (v2 := .int 0) (Ev.cell rfl (by decide) (by walk_at "hyp") rfl) Ev.int hX2 rfl (op_getX (j := 0) hX2 (by decide) rfl) hs_c) hB2 rfl (op_getL hB2 (by exact Nat.le_trans (by assumption) (by decide)) hy1) hs_s) Ev.int (op_mod' (by decide) hm1)) rfl (by decide) ?_
    dsimp only
    refine XS.cut (EX0 H2 z bi ai ri k) ?_ (fun f st' h => ?_)
    · by_cases hm6 : z = 6 ∧ m0 = 0
      · refine XE.ifT (Tr.and_t (Tr.cmp0 (by walk_at "ev") Ev.int (op_eqi' (by simp [hm6.1])) hm_eq) (Tr.and_t (Tr.cmp0 (by walk_at "ev") Ev.int (op_eqi' (by simp [hm6.2])) hm_eq) Tr.and_nil)) ?_
        refine XS.assign (by walk_at "ev") rfl (by decide) ?_
        exact XS.nil ⟨⟨1, _, rfl, rfl, by decide, rfl, rfl, rfl, rfl, rfl, rfl⟩, by simp⟩
      · have hor : ∀ (E : Prop), (z ≠ 6 → E) → (z = 6 → m0 ≠ 0 → E) → E := fun E h1 h2 => by
          by_cases h : z = 6
          · exact h2 h fun h3 => hm6 ⟨h, h3⟩
          · exact h1 h
        refine XE.ifF (st1 := ⟨H2, upd (upd (fun x => List.lookup x ((["beads", "at", "deep", "rule_names"] : List Str).zip [AVal.ref bi, .ref ai, .int ((k + 1 : Nat) : Int), .ref ri])) "form" (.int z)) "many" (.int (m0 : Int))⟩) (hor _ (fun h => Tr.and_f (Tr.cmp0 (by walk_at "ev") Ev.int (op_eqi' (by simp [h])) hm_eq)) fun h1 h2 => Tr.and_t (Tr.cmp0 (by walk_at "ev") Ev.int (op_eqi' (by simp [h1])) hm_eq) (Tr.and_f (Tr.cmp0 (by walk_at "ev") Ev.int (op_eqi' (by simp; assumption)) hm_eq))) ?_
        exact XS.nil ⟨⟨m0, _, rfl, rfl, by omega, rfl, rfl, rfl, rfl, rfl, rfl⟩, by simp⟩
    · obtain ⟨m, l, rfl, rfl, hm3, q1, q2, q3, q4, q5, q6⟩ := h
      have mk : ∀ (tag : Str) (mkE : List E → E), (∀ es, Trees k nm es → es.length ≤ 3 → Tree (k + 1) nm (mkE es)) → (∀ (Hc : List AObj) (es : List E) (i j : Nat) (us : List AVal), H.length ≤ i → H.length ≤ j → Hc[i]? = some (.tup [.str tag, .ref j]) → Hc[j]? = some (.list us) → IsEFs H.length Hc es us → IsEF H.length Hc (mkE es) (.ref i)) →
          ∀ (Hc : List AObj) (acc : List AVal), EX1 H H2 nm ai k [] Hc acc →
          EXP H ai (k + 1) nm (.ref Hc.length) (Hc ++ [.tup [.str tag, .ref H2.length]]) := by
        intro tag mkE h1 h2 Hc acc ⟨es, p3, g1, g2, g3, g4, g5, g6, g7, _⟩
        refine ⟨mkE es, p3, h2 _ es Hc.length H2.length acc g6.len hK2.len app_at (app_lt g5) (g1.keep (by have := hK2.len; exact Nat.le_succ_of_le (by assumption)) fun i o _ h => app_lt h), h1 es g2 (by simpa using g7), app_lt g3, g4, g6.app _⟩
      by_cases hz6 : z < 6
      · refine' XS.retTup2 (v1 := .str "seq") (st1 := ⟨H2, l⟩) (Ev.if_t (Tr.cmp0 (by walk_at "ev") Ev.int (op_lti' (by simp; assumption)) hm_lt) Ev.str) (XV.compN (Src.range (z := (m : Int)) (st2 := ⟨H2, l⟩) (by omega) (by omega) ?seqa ?seqb) ⟨by decide, by decide, by decide, rfl, by decide, rfl, by decide, by decide⟩ (by exact Nat.le_trans (by assumption) (by decide))
          (XR.run (EX1 H H2 nm ai k) (fun _ _ _ _ => trivial) (fun Hc acc h => ?seqc) (fun v vs Hc acc h => .inl ?seqd) _ _ _ ⟨[], p2, trivial, .nil, app_lt hX2, hlt2, app_at, hK2.app _, by simp; assumption, Kp.refl.app _⟩)) (fun _ => rfl) (fun _ => rfl)
        case seqa => walk_at "ev"
        case seqb => walk_at "ev"
        case seqc =>
          exact mk "seq" .seq (fun es h hl => h.seq hl) (fun Hc es i j us a1 a2 a3 a4 a5 => ⟨i, j, us, rfl, a1, a2, a3, a4, a5⟩) Hc acc h
        case seqd =>
          dsimp only at h ⊢
          obtain ⟨es, p3, g1, g2, g3, g4, g5, g6, g7, g8⟩ := h
          obtain ⟨r, H4, hc, e4, p4, f1, f2, f3, f4, f5⟩ := ih k (by exact Nat.le_refl _) (by exact Nat.le_of_lt (by assumption)) Hc p3 (g8.keep bi _ hB2 (by simp [Ne.symm hba])) g3 g4 (g8.keep ri _ hR2 (by simp [Ne.symm hra]))
          have hai : ai < H2.length := lt_of_at hX2
          have hD4 := f5.keep H2.length _ g5 (by simp; exact Nat.ne_of_gt (by assumption))
          have hDl := lt_of_at g5
          refine ⟨Hc, H4, r, Tst.nil, ?_, hD4, es ++ [e4], p4, ?_, g2.snoc f2, set_ne (by exact Nat.ne_of_gt (by assumption)) f3, f4, set_at hD4, (g6.trans f5).set (.inr hK2.len), by simp at g7 ⊢; exact om6 (by assumption) (by first | exact Nat.le_refl _ | decide), (g8.trans f5).set (.inr (Nat.le_refl _))⟩
          · refine' Ev.callH (H := Hc) ?seqe ?seqf (EvL.cons ?seqg (EvL.cons ?seqh (EvL.cons ?seqi (EvL.cons ?seqj EvL.nil)))) hc ?seqk
            case seqe => walk_at "ev"
            case seqf => exact callForm_K G (by k_is)
            case seqg => exact Ev.cell rfl (by decide) (by dsimp only; exact upd_ne (by decide) (compBase_get (by decide) q3)) rfl
            case seqh => exact Ev.cell rfl (by decide) (by dsimp only; exact upd_ne (by decide) (compBase_get (by decide) q4)) rfl
            case seqi => exact Ev.bin0 (Ev.cell rfl (by decide) (by dsimp only; exact upd_ne (by decide) (compBase_get (by decide) q5)) rfl) Ev.int (op_sub' hkk)
            case seqj => exact Ev.cell rfl (by decide) (by dsimp only; exact upd_ne (by decide) (compBase_get (by decide) q6)) rfl
            case seqk => intro _ _; rfl
          · refine IsEFs.snoc (f1.keep hDl fun i o hi h => set_ne (by omega) h) (g1.keep (Nat.le_refl _) fun i o hi h => set_ne (by exact Nat.ne_of_lt (by assumption)) (f5.keep i o h (by simp; omega)))
      · refine' XS.retTup2 (v1 := .str "alt") (st1 := ⟨H2, l⟩) (Ev.if_f (Tr.cmp0 (by walk_at "ev") Ev.int (op_lti' (by simp; omega)) hm_lt) Ev.str) (XV.compN (Src.range (z := (m : Int)) (st2 := ⟨H2, l⟩) (by omega) (by omega) ?alta ?altb) ⟨by decide, by decide, by decide, rfl, by decide, rfl, by decide, by decide⟩ (by exact Nat.le_trans (by assumption) (by decide))
          (XR.run (EX1 H H2 nm ai k) (fun _ _ _ _ => trivial) (fun Hc acc h => ?altc) (fun v vs Hc acc h => .inl ?altd) _ _ _ ⟨[], p2, trivial, .nil, app_lt hX2, hlt2, app_at, hK2.app _, by simp; assumption, Kp.refl.app _⟩)) (fun _ => rfl) (fun _ => rfl)
        case alta => walk_at "ev"
        case altb => walk_at "ev"
        case altc =>
          exact mk "alt" .alt (fun es h hl => h.alt hl) (fun Hc es i j us a1 a2 a3 a4 a5 => ⟨i, j, us, rfl, a1, a2, a3, a4, a5⟩) Hc acc h
        case altd =>
          dsimp only at h ⊢
          obtain ⟨es, p3, g1, g2, g3, g4, g5, g6, g7, g8⟩ := h
          obtain ⟨r, H4, hc, e4, p4, f1, f2, f3, f4, f5⟩ := ih k (by exact Nat.le_refl _) (by exact Nat.le_of_lt (by assumption)) Hc p3 (g8.keep bi _ hB2 (by simp [Ne.symm hba])) g3 g4 (g8.keep ri _ hR2 (by simp [Ne.symm hra]))
          have hai : ai < H2.length := lt_of_at hX2
          have hD4 := f5.keep H2.length _ g5 (by simp; exact Nat.ne_of_gt (by assumption))
          have hDl := lt_of_at g5
          refine ⟨Hc, H4, r, Tst.nil, ?_, hD4, es ++ [e4], p4, ?_, g2.snoc f2, set_ne (by exact Nat.ne_of_gt (by assumption)) f3, f4, set_at hD4, (g6.trans f5).set (.inr hK2.len), by simp at g7 ⊢; exact om6 (by assumption) (by first | exact Nat.le_refl _ | decide), (g8.trans f5).set (.inr (Nat.le_refl _))⟩
          · refine' Ev.callH (H := Hc) ?alte ?altf (EvL.cons ?altg (EvL.cons ?alth (EvL.cons ?alti (EvL.cons ?altj EvL.nil)))) hc ?altk
            case alte => walk_at "ev"
            case altf => exact callForm_K G (by k_is)
            case altg => exact Ev.cell rfl (by decide) (by dsimp only; exact upd_ne (by decide) (compBase_get (by decide) q3)) rfl
            case alth => exact Ev.cell rfl (by decide) (by dsimp only; exact upd_ne (by decide) (compBase_get (by decide) q4)) rfl
            case alti => exact Ev.bin0 (Ev.cell rfl (by decide) (by dsimp only; exact upd_ne (by decide) (compBase_get (by decide) q5)) rfl) Ev.int (op_sub' hkk)
            case altj => exact Ev.cell rfl (by decide) (by dsimp only; exact upd_ne (by decide) (compBase_get (by decide) q6)) rfl
            case altk => intro _ _; rfl
          · refine IsEFs.snoc (f1.keep hDl fun i o hi h => set_ne (by omega) h) (g1.keep (Nat.le_refl _) fun i o hi h => set_ne (by exact Nat.ne_of_lt (by assumption)) (f5.keep i o h (by simp; omega)))
end
end

section
variable {w : World} {b₀ : Heap} {n : Nat} {P : Params} {H : List AObj}

theorem cont_false : ∀ bl : List Bool, bl.contains false = !(bl.all id)
  | [] => rfl
  | b :: bl => by rw [List.contains_cons, cont_false bl, List.all_cons]; cases b <;> simp
theorem cont_true : ∀ bl : List Bool, bl.contains true = bl.any id
  | [] => rfl
  | b :: bl => by rw [List.contains_cons, cont_true bl, List.any_cons]; cases b <;> simp

section
variable {hi : Nat} {hs : List Str}

inductive HO1 (H : List AObj) (N : Str → Bool) (es : List E) (k : Nat) (vs : List AVal) (Hc : List AObj) (acc : List AVal) : Prop
  | mk : ∀ (es1 : List E) (bl : List Bool), IsEs H es1 vs → hgts es1 ≤ k → szs es1 ≤ szs es → acc = bl.map AVal.bool → mbeAll N es = (bl.all id && mbeAll N es1) → Kp [] H Hc → Hc[H.length]? = some (.list acc) → HO1 H N es k vs Hc acc
inductive HO2 (H : List AObj) (N : Str → Bool) (es : List E) (k : Nat) (vs : List AVal) (Hc : List AObj) (acc : List AVal) : Prop
  | mk : ∀ (es1 : List E) (bl : List Bool), IsEs H es1 vs → hgts es1 ≤ k → szs es1 ≤ szs es → acc = bl.map AVal.bool → mbeAny N es = (bl.any id || mbeAny N es1) → Kp [] H Hc → Hc[H.length]? = some (.list acc) → HO2 H N es k vs Hc acc
inductive HOP (H : List AObj) (b : Bool) (r : AVal) (H' : List AObj) : Prop
  | mk : r = .bool b → Kp [] H H' → HOP H b r H'
theorem hollow_spec (G : Glo (hd.heap_39 P) b₀) : ∀ (k : Nat) (e : E) (v : AVal) (H : List AObj), H[hi]? = some (.list (hs.map .str)) → hgt e ≤ k → sz e ≤ 1000 → IsE H e v →
    XC w b₀ (k + 1) (.val (.ref 150)) [v, .ref hi] H (HOP H (mbe (fun x => strIn x hs) e)) := by
  intro k
  induction k with
  | zero =>
    intro e v H hh hk hz he
    refine XC.defC (n := 0) (ps := ["e", "hollow_names"]) G (by k_is) (by k_is) rfl rfl (ar2 fun _ _ => rfl) (by decide) (by decide) (by decide) (by decide) rfl rfl rfl ?_
    cases e with
    | name x =>
      obtain ⟨i, rfl, hi0⟩ := id he
      refine XS.assign (by walk_at "ev") rfl (by decide) ?_
      refine XS.skip (Tr.or_f (by walk_at "tr") (Tr.or_f (by walk_at "tr") Tr.or_nil)) ?_
      refine XS.skip (by walk_at "tr") ?_
      refine XS.ifT (by walk_at "tr") ?_
      exact XS.ret (v := .bool (strIn x hs)) (Ev.cmp0 (by walk_at "ev") (by walk_at "ev") (op_inLs hh) hm_name) (by exact ⟨⟨rfl, Kp.refl⟩, by simp⟩)
    | text x =>
      obtain ⟨i, rfl, hi0⟩ := id he
      refine XS.assign (by walk_at "ev") rfl (by decide) ?_
      refine XS.skip (Tr.or_f (by walk_at "tr") (Tr.or_f (by walk_at "tr") Tr.or_nil)) ?_
      refine XS.ifT (by walk_at "tr") ?_
      exact XS.ret (v := .bool false) (by walk_at "ev") (by exact ⟨⟨rfl, Kp.refl⟩, by simp⟩)
    | _ => exact absurd hk (Nat.not_succ_le_zero _)
  | succ k ih =>
    intro e v H hh hk hz he
    cases e with
    | name x => exact (ih _ v H hh (Nat.zero_le _) hz he).mono (by exact Nat.le_succ _) fun _ _ h => h
    | text x => exact (ih _ v H hh (Nat.zero_le _) hz he).mono (by exact Nat.le_succ _) fun _ _ h => h
    | opt e =>
      refine XC.defC (n := k + 1) (ps := ["e", "hollow_names"]) G (by k_is) (by k_is) rfl rfl (ar2 fun _ _ => rfl) (by decide) (by decide) (by decide) (by decide) rfl rfl rfl ?_
      obtain ⟨i, u, rfl, hi0, _⟩ := id he
      refine XS.assign (by walk_at "ev") rfl (by decide) ?_
      refine XS.ifT (Tr.or_t (by walk_at "tr")) ?_
      exact XS.ret (v := .bool true) (by walk_at "ev") (by exact ⟨⟨rfl, Kp.refl⟩, by simp⟩)
    | rep e =>
      refine XC.defC (n := k + 1) (ps := ["e", "hollow_names"]) G (by k_is) (by k_is) rfl rfl (ar2 fun _ _ => rfl) (by decide) (by decide) (by decide) (by decide) rfl rfl rfl ?_
      obtain ⟨i, u, rfl, hi0, _⟩ := id he
      refine XS.assign (by walk_at "ev") rfl (by decide) ?_
      refine XS.ifT (Tr.or_f (by walk_at "tr") (Tr.or_t (by walk_at "tr"))) ?_
      exact XS.ret (v := .bool true) (by walk_at "ev") (by exact ⟨⟨rfl, Kp.refl⟩, by simp⟩)
    | seq es =>
      refine XC.defC (n := k + 1) (ps := ["e", "hollow_names"]) G (by k_is) (by k_is) rfl rfl (ar2 fun _ _ => rfl) (by decide) (by decide) (by decide) (by decide) rfl rfl rfl ?_
      obtain ⟨i, j, us, rfl, hi0, hj, hes⟩ := id he
      have hk' : hgts es ≤ k := Nat.le_of_succ_le_succ hk
      have hul : us.length ≤ 1000 := by have h1 := hes.length; have h2 := len_szs es; rw [sz] at hz; omega
      refine XS.assign (by walk_at "ev") rfl (by decide) ?_
      refine XS.skip (Tr.or_f (by walk_at "tr") (Tr.or_f (by walk_at "tr") Tr.or_nil)) ?_
      refine XS.skip (by walk_at "tr") ?_
      refine XS.skip (by walk_at "tr") ?_
      dsimp only
      refine' XS.assignComp (i := j) (vs := us) (st1 := ⟨H, upd (fun x => List.lookup x ((["e", "hollow_names"] : List Str).zip [AVal.ref i, .ref hi])) "head" (.str "seq")⟩) ?seqa hj ⟨by decide, by decide, by decide, rfl, by decide, rfl, by decide, by decide⟩ hul rfl (by decide) ?seqb
        (XR.run (HO1 H (fun x => strIn x hs) es k) (fun vs Hc acc h => ?seqc) (fun Hc acc h => ?seqd) (fun v vs Hc acc h => .inl ?seqe) _ _ _ ⟨es, [], hes, hk', Nat.le_refl _, rfl, by simp, Kp.refl.app _, app_at⟩)
      case seqa => walk_at "ev"
      case seqb =>
        intro env hE
        show (pure (env.blockKind == .function && env.kindOf _ == some .local && _ && _) : Sem Bool) = pure true
        rw [hE.kindOf, show env.blockKind = .function by unfold Env.blockKind; rw [hE.k]; rfl]
        rfl
      case seqc =>
        obtain ⟨_, _, _, _, _, _, _, hK, _⟩ := h; exact hK.at hj
      case seqd =>
        obtain ⟨es1, bl, h1, _, _, rfl, h5, hK, hD⟩ := h
        cases h1.inv_nil
        dsimp only
        have hv : mbe (fun x => strIn x hs) (.seq es) = bl.all id := by rw [mbe, h5, mbeAll]; simp
        refine XS.ret (v := .bool (bl.all id)) (Ev.if_t (by walk_at "tr") (Ev.cmp0 Ev.bool (by walk_at "ev") (by have := op_ninLb (w := w) (b₀ := b₀) (n := k + 1) (c := false) hD; rw [cont_false, Bool.not_not] at this; exact this) hm_name)) ?_
        exact ⟨by rw [hv], hK⟩
      case seqe =>
        dsimp only at h ⊢
        obtain ⟨es1, bl, h1, h2, h3, rfl, h5, hK, hD⟩ := h
        obtain ⟨e1, es1, rfl, he1, hes1⟩ := h1.inv_cons
        replace h2 : max (hgt e1) (hgts es1) ≤ k := h2
        rw [szs] at h3
        obtain ⟨r, H4, hc, rfl, hK4⟩ := ih e1 v Hc (hK.at hh) (by exact om1 (by assumption)) (by rw [sz] at hz; exact om18 (by assumption) (by assumption)) (he1.kp hK Wr.nil)
        have hD4 := hK4.at hD
        refine ⟨Hc, H4, .bool (mbe (fun x => strIn x hs) e1), Tst.nil, ?_, hD4, es1, bl ++ [mbe (fun x => strIn x hs) e1], hes1, by exact om2 (by assumption), by exact om4 (by assumption) (by first | exact Nat.le_refl _ | decide), by simp, ?_, (hK.trans hK4).set (.inr (Nat.le_refl _)), set_at hD4⟩
        · refine' Ev.callH (H := Hc) ?seqg ?seqh (EvL.cons ?seqi (EvL.cons ?seqj EvL.nil)) hc ?seqk
          case seqg => walk_at "ev"
          case seqh => exact callForm_K G (by k_is)
          case seqi => exact Ev.loc rfl (by dsimp only; exact upd_eq) rfl
          case seqj => exact Ev.cell rfl (by decide) (by dsimp only; exact upd_ne (by decide) (compBase_get (by decide) rfl)) rfl
          case seqk => intro _ _; rfl
        · rw [h5, mbeAll]; simp [Bool.and_assoc]
    | alt es =>
      refine XC.defC (n := k + 1) (ps := ["e", "hollow_names"]) G (by k_is) (by k_is) rfl rfl (ar2 fun _ _ => rfl) (by decide) (by decide) (by decide) (by decide) rfl rfl rfl ?_
      obtain ⟨i, j, us, rfl, hi0, hj, hes⟩ := id he
      have hk' : hgts es ≤ k := Nat.le_of_succ_le_succ hk
      have hul : us.length ≤ 1000 := by have h1 := hes.length; have h2 := len_szs es; rw [sz] at hz; omega
      refine XS.assign (by walk_at "ev") rfl (by decide) ?_
      refine XS.skip (Tr.or_f (by walk_at "tr") (Tr.or_f (by walk_at "tr") Tr.or_nil)) ?_
      refine XS.skip (by walk_at "tr") ?_
      refine XS.skip (by walk_at "tr") ?_
      dsimp only
      refine' XS.assignComp (i := j) (vs := us) (st1 := ⟨H, upd (fun x => List.lookup x ((["e", "hollow_names"] : List Str).zip [AVal.ref i, .ref hi])) "head" (.str "alt")⟩) ?alta hj ⟨by decide, by decide, by decide, rfl, by decide, rfl, by decide, by decide⟩ hul rfl (by decide) ?altb
        (XR.run (HO2 H (fun x => strIn x hs) es k) (fun vs Hc acc h => ?altc) (fun Hc acc h => ?altd) (fun v vs Hc acc h => .inl ?alte) _ _ _ ⟨es, [], hes, hk', Nat.le_refl _, rfl, by simp, Kp.refl.app _, app_at⟩)
      case alta => walk_at "ev"
      case altb =>
        intro env hE
        show (pure (env.blockKind == .function && env.kindOf _ == some .local && _ && _) : Sem Bool) = pure true
        rw [hE.kindOf, show env.blockKind = .function by unfold Env.blockKind; rw [hE.k]; rfl]
        rfl
      case altc =>
        obtain ⟨_, _, _, _, _, _, _, hK, _⟩ := h; exact hK.at hj
      case altd =>
        obtain ⟨es1, bl, h1, _, _, rfl, h5, hK, hD⟩ := h
        cases h1.inv_nil
        dsimp only
        have hv : mbe (fun x => strIn x hs) (.alt es) = bl.any id := by rw [mbe, h5, mbeAny]; simp
        refine XS.ret (v := .bool (bl.any id)) (Ev.if_f (by walk_at "tr") (Ev.cmp0 Ev.bool (by walk_at "ev") (by have := op_inLb (w := w) (b₀ := b₀) (n := k + 1) (c := true) hD; rw [cont_true] at this; exact this) hm_name)) ?_
        exact ⟨by rw [hv], hK⟩
      case alte =>
        dsimp only at h ⊢
        obtain ⟨es1, bl, h1, h2, h3, rfl, h5, hK, hD⟩ := h
        obtain ⟨e1, es1, rfl, he1, hes1⟩ := h1.inv_cons
        replace h2 : max (hgt e1) (hgts es1) ≤ k := h2
        rw [szs] at h3
        obtain ⟨r, H4, hc, rfl, hK4⟩ := ih e1 v Hc (hK.at hh) (by exact om1 (by assumption)) (by rw [sz] at hz; exact om18 (by assumption) (by assumption)) (he1.kp hK Wr.nil)
        have hD4 := hK4.at hD
        refine ⟨Hc, H4, .bool (mbe (fun x => strIn x hs) e1), Tst.nil, ?_, hD4, es1, bl ++ [mbe (fun x => strIn x hs) e1], hes1, by exact om2 (by assumption), by exact om4 (by assumption) (by first | exact Nat.le_refl _ | decide), by simp, ?_, (hK.trans hK4).set (.inr (Nat.le_refl _)), set_at hD4⟩
        · refine' Ev.callH (H := Hc) ?altg ?alth (EvL.cons ?alti (EvL.cons ?altj EvL.nil)) hc ?altk
          case altg => walk_at "ev"
          case alth => exact callForm_K G (by k_is)
          case alti => exact Ev.loc rfl (by dsimp only; exact upd_eq) rfl
          case altj => exact Ev.cell rfl (by decide) (by dsimp only; exact upd_ne (by decide) (compBase_get (by decide) rfl)) rfl
          case altk => intro _ _; rfl
        · rw [h5, mbeAny]; simp [Bool.or_assoc]
end
end

section
variable {w : World} {b₀ : Heap} {n : Nat} {P : Params} {H : List AObj}

theorem op_inLs' {i : Nat} {ys : List Str} {x : Str} {c : Bool} (ho : H[i]? = some (.list (ys.map .str))) (h : strIn x ys = c) : Op2 w b₀ n (compareOp .In) VR (.str x) (.ref i) H (.bool c) H := h ▸ op_inLs ho
abbrev orL : List Str := ["opt", "rep"]
mutual
theorem fr_len {N : Str → Bool} : ∀ e : E, (fr N e).length ≤ sz e
  | .name x => by rw [fr, sz]; simp
  | .text x => by rw [fr, sz]; simp
  | .opt e => by rw [fr, sz]; have := fr_len (N := N) e; exact Nat.le_succ_of_le (by assumption)
  | .rep e => by rw [fr, sz]; have := fr_len (N := N) e; exact Nat.le_succ_of_le (by assumption)
  | .seq es => by rw [fr, sz]; have := frSeq_len (N := N) es; exact Nat.le_succ_of_le (by assumption)
  | .alt es => by rw [fr, sz]; have := frAlt_len (N := N) es; exact Nat.le_succ_of_le (by assumption)
theorem frSeq_len {N : Str → Bool} : ∀ es : List E, (frSeq N es).length ≤ szs es
  | [] => by rw [frSeq, szs]; simp
  | e :: es => by
    rw [frSeq, szs, List.length_append]
    have h1 := fr_len (N := N) e
    have h2 := frSeq_len (N := N) es
    split
    · exact Nat.add_le_add (by assumption) (by assumption)
    · simp; exact Nat.le_trans (by assumption) (Nat.le_add_right _ _)
theorem frAlt_len {N : Str → Bool} : ∀ es : List E, (frAlt N es).length ≤ szs es
  | [] => by rw [frAlt, szs]; simp
  | e :: es => by
    rw [frAlt, szs, List.length_append]
    have h1 := fr_len (N := N) e
    have h2 := frAlt_len (N := N) es
    exact Nat.add_le_add (by assumption) (by assumption)
end

section
variable {hi ri : Nat} {hs : List Str} {ps : List (Str × AVal)}

inductive HD1 (H : List AObj) (k : Nat) (ps : List (Str × AVal)) (F : List E → List Str) (es : List E) (i ri hi : Nat) (vs : List AVal) (st : ASt) : Prop
  | mk : ∀ (es1 : List E) (xs : List Str) (H1 : List AObj) (l : Str → Option AVal), IsEs H es1 vs → hgts es1 ≤ k → szs es1 + xs.length ≤ 1000 → (F es).filter (hasK ps) = xs ++ (F es1).filter (hasK ps) → st = ⟨H1, l⟩ → Kp [] H H1 → H1[H.length + 1]? = some (.list (xs.map .str)) →
    l "found" = some (.ref (H.length + 1)) → l "e" = some (.ref i) → l "rules_of" = some (.ref ri) → l "hollow_names" = some (.ref hi) → HD1 H k ps F es i ri hi vs st
inductive HDP (H : List AObj) (xs : List Str) (r : AVal) (H' : List AObj) : Prop
  | mk : ∀ (f : Nat), r = .ref f → H'[f]? = some (.list (xs.map .str)) → Kp [] H H' → HDP H xs r H'
theorem heads_spec (G : Glo (hd.heap_39 P) b₀) : ∀ (k : Nat) (e : E) (v : AVal) (H : List AObj), H[ri]? = some (.dict ps) → H[hi]? = some (.list (hs.map .str)) → hgt e ≤ k → sz e ≤ 1000 → IsE H e v →
    XC w b₀ (k + 2) (.val (.ref 157)) [v, .ref ri, .ref hi] H (HDP H ((fr (fun x => strIn x hs) e).filter (hasK ps))) := by
  intro k
  induction k with
  | zero =>
    intro e v H hri hh hk hz he
    refine XC.def (n := 1) (ps := ["e", "rules_of", "hollow_names"]) G (by k_is) (by k_is) rfl rfl (ar3 fun _ _ _ => rfl) (by decide) (by decide) (by decide) rfl rfl rfl ?_
    cases e with
    | name x =>
      obtain ⟨i, rfl, hi0⟩ := id he
      refine XS.ifT (by walk_at "tr") ?_
      cases hx : aget ps x with
      | some u =>
        refine XS.ret (Ev.if_t (by walk_at "tr") (Ev.list (vs := [.str x]) (by walk_at "evl") (by simp))) ?_
        exact ⟨⟨_, rfl, by rw [fr]; simp [hasK, hx], Kp.refl.app _⟩, by simp⟩
      | none =>
        refine XS.ret (Ev.if_f (by walk_at "tr") (Ev.list EvL.nil (by simp))) ?_
        exact ⟨⟨_, rfl, by rw [fr]; simp [hasK, hx], Kp.refl.app _⟩, by simp⟩
    | text x =>
      obtain ⟨i, rfl, hi0⟩ := id he
      refine XS.skip (by walk_at "tr") ?_
      refine XS.ifT (by walk_at "tr") ?_
      refine XS.ret (Ev.list EvL.nil (by simp)) ?_
      exact ⟨⟨_, rfl, by rw [fr]; simp, Kp.refl.app _⟩, by simp⟩
    | _ => exact absurd hk (Nat.not_succ_le_zero _)
  | succ k ih =>
    intro e v H hri hh hk hz he
    cases e with
    | name x => exact (ih _ v H hri hh (Nat.zero_le _) hz he).mono (by exact Nat.le_succ _) fun _ _ h => h
    | text x => exact (ih _ v H hri hh (Nat.zero_le _) hz he).mono (by exact Nat.le_succ _) fun _ _ h => h
    | opt e =>
      refine XC.def (n := k + 2) (ps := ["e", "rules_of", "hollow_names"]) G (by k_is) (by k_is) rfl rfl (ar3 fun _ _ _ => rfl) (by decide) (by decide) (by decide) rfl rfl rfl ?_
      obtain ⟨i, u, rfl, hi0, hu⟩ := id he
      have hKa : Kp [] H (H ++ [AObj.list (orL.map AVal.str)]) := Kp.refl.app _
      have hi1 := hKa.at hi0
      obtain ⟨r, H', hc, f, rfl, h1, h2⟩ := ih e u _ (hKa.at hri) (hKa.at hh) (Nat.le_of_succ_le_succ hk) (by rw [sz] at hz; exact Nat.le_of_lt (by assumption)) (hu.kp hKa Wr.nil)
      refine XS.skip (by walk_at "tr") ?_
      refine XS.skip (by walk_at "tr") ?_
      refine XS.ifT (Tr.cmp (by walk_at "ev") (Ev.list (vs := orL.map AVal.str) (by walk_at "evl") (by simp)) (op_inLs' (ys := orL) app_at (by decide)) hm_list) ?_
      dsimp only
      refine XS.ret (v := .ref f) (by walk_at "ev") ?_
      exact ⟨⟨f, rfl, h1, hKa.trans h2⟩, by simp⟩
    | rep e =>
      refine XC.def (n := k + 2) (ps := ["e", "rules_of", "hollow_names"]) G (by k_is) (by k_is) rfl rfl (ar3 fun _ _ _ => rfl) (by decide) (by decide) (by decide) rfl rfl rfl ?_
      obtain ⟨i, u, rfl, hi0, hu⟩ := id he
      have hKa : Kp [] H (H ++ [AObj.list (orL.map AVal.str)]) := Kp.refl.app _
      have hi1 := hKa.at hi0
      obtain ⟨r, H', hc, f, rfl, h1, h2⟩ := ih e u _ (hKa.at hri) (hKa.at hh) (Nat.le_of_succ_le_succ hk) (by rw [sz] at hz; exact Nat.le_of_lt (by assumption)) (hu.kp hKa Wr.nil)
      refine XS.skip (by walk_at "tr") ?_
      refine XS.skip (by walk_at "tr") ?_
      refine XS.ifT (Tr.cmp (by walk_at "ev") (Ev.list (vs := orL.map AVal.str) (by walk_at "evl") (by simp)) (op_inLs' (ys := orL) app_at (by decide)) hm_list) ?_
      dsimp only
      refine XS.ret (v := .ref f) (by walk_at "ev") ?_
      exact ⟨⟨f, rfl, h1, hKa.trans h2⟩, by simp⟩
    | seq es =>
      refine XC.def (n := k + 2) (ps := ["e", "rules_of", "hollow_names"]) G (by k_is) (by k_is) rfl rfl (ar3 fun _ _ _ => rfl) (by decide) (by decide) (by decide) rfl rfl rfl ?_
      obtain ⟨i, j, us, rfl, hi0, hj, hes⟩ := id he
      have hk' : hgts es ≤ k := Nat.le_of_succ_le_succ hk
      have hz' : szs es ≤ 1000 := by rw [sz] at hz; exact Nat.le_of_lt (by assumption)
      have hKa : Kp [] H (H ++ [AObj.list (orL.map AVal.str)]) := Kp.refl.app _
      have hKb : Kp [] H (H ++ [AObj.list (orL.map AVal.str)] ++ [.list []]) := hKa.app _
      have hi1 := hKb.at hi0
      have hDl : (H ++ [AObj.list (orL.map AVal.str)]).length = H.length + 1 := by simp
      refine XS.skip (by walk_at "tr") ?_
      refine XS.skip (by walk_at "tr") ?_
      refine XS.skip (Tr.cmp (by walk_at "ev") (Ev.list (vs := orL.map AVal.str) (by walk_at "evl") (by simp)) (op_inLs' (ys := orL) app_at (by decide)) hm_list) ?_
      dsimp only
      refine XS.assign (Ev.list EvL.nil (by simp)) rfl (by decide) ?_
      dsimp only
      refine XS.forL (i := j) (vs := us) (by walk_at "ev") (hKb.at hj) (XL.run (HD1 H k ps (frSeq fun x => strIn x hs) es i ri hi)
        (fun vs st h => ?_) (fun st h => ?_) (fun v vs st h => ?_) _ _ ⟨es, [], _, _, hes, hk', by simpa using hz', by simp, rfl, hKb, by simp, by rw [← hDl]; rfl, rfl, rfl, rfl⟩)
      · obtain ⟨_, _, H1, l, _, _, _, _, rfl, hK, _⟩ := h; exact hK.at hj
      · obtain ⟨es1, xs, H1, l, h1, _, _, h4, rfl, hK, hD, q1, q2, q3, q4⟩ := h
        cases h1.inv_nil
        refine XS.ret (v := .ref (H.length + 1)) (by walk_at "ev") ?_
        refine ⟨H.length + 1, rfl, ?_, hK⟩
        rw [fr, h4, frSeq]; simpa using hD
      · obtain ⟨es1, xs, H1, l, h1, h2, h3, h4, rfl, hK, hD, q1, q2, q3, q4⟩ := h
        obtain ⟨e1, es1, rfl, he1, hes1⟩ := h1.inv_cons
        replace h2 : max (hgt e1) (hgts es1) ≤ k := h2
        rw [szs] at h3
        have hlen1 := fr_len (N := fun x => strIn x hs) e1
        have hlen2 : ((fr (fun x => strIn x hs) e1).filter (hasK ps)).length ≤ (fr (fun x => strIn x hs) e1).length := List.length_filter_le _ _
        obtain ⟨r, H2, hc, f, rfl, f1, f2⟩ := ih e1 v H1 (hK.at hri) (hK.at hh) (by exact om1 (by assumption)) (by exact om13 (by assumption) (by decide)) (he1.kp hK Wr.nil)
        have hK2 := hK.trans f2
        have hD2 := f2.at hD
        have hi2 := hK2.at hi0
        refine ⟨_, As.name rfl (by decide), ?_⟩
        refine XS.next (Ex.aug (v1 := .ref (H.length + 1)) (v2 := .ref f) (v := .ref (H.length + 1)) (st1 := ⟨H2, upd l "item" v⟩) (by walk_at "hyp") rfl (by decide) (Ev.callH (H := H1) (by walk_at "ev") (callForm_K G (by k_is)) (by walk_at "evl") hc (by intro _ _; rfl)) (op_iadd hD2 f1 (by simp; exact om4 (by assumption) (by first | exact Nat.le_refl _ | decide)) (by simp; omega))) ?_
        dsimp only
        rw [← List.map_append]
        have hK3 : Kp [] H (H2.set (H.length + 1) (.list ((xs ++ (fr (fun x => strIn x hs) e1).filter (hasK ps)).map .str))) := hK2.set (.inr (by exact Nat.le_succ _))
        have hD3 : (H2.set (H.length + 1) (.list ((xs ++ (fr (fun x => strIn x hs) e1).filter (hasK ps)).map .str)))[H.length + 1]? = some (.list ((xs ++ (fr (fun x => strIn x hs) e1).filter (hasK ps)).map .str)) := set_at hD2
        generalize H2.set (H.length + 1) (.list ((xs ++ (fr (fun x => strIn x hs) e1).filter (hasK ps)).map .str)) = H3 at *
        have hi3 := hK3.at hi0
        obtain ⟨r4, H4, hc4, rfl, hK4⟩ := hollow_spec (w := w) (hs := hs) G k e1 v H3 (hK3.at hh) (by exact om1 (by assumption)) (by exact om13 (by assumption) (by decide)) (he1.kp hK3 Wr.nil)
        have hc4' := hc4.mono (show k + 1 ≤ k + 2 by exact Nat.le_succ _)
        cases hb : mbe (fun x => strIn x hs) e1 with
        | true =>
          rw [hb] at hc4'
          refine XS.skip (Tr.and_t (by walk_at "tr") (Tr.and_f (Tr.not_f (Tr.valb (Ev.callH (H := H3) (by walk_at "ev") (callForm_K G (by k_is)) (by walk_at "evl") hc4' (by intro _ _; rfl)))))) ?_
          refine XS.nil ?_
          dsimp only [Turn]
          refine ⟨es1, xs ++ (fr (fun x => strIn x hs) e1).filter (hasK ps), H4, _, hes1, by exact om2 (by assumption), by rw [List.length_append]; omega, ?_, rfl, hK3.trans hK4, hK4.at hD3, upd_eq, upd_ne (by decide) (upd_ne (by decide) q2), upd_ne (by decide) (upd_ne (by decide) q3), upd_ne (by decide) (upd_ne (by decide) q4)⟩
          rw [h4, frSeq, hb]; simp
        | false =>
          rw [hb] at hc4'
          refine XS.ifT (Tr.and_t (by walk_at "tr") (Tr.and_t (Tr.not_t (Tr.valb (Ev.callH (H := H3) (by walk_at "ev") (callForm_K G (by k_is)) (by walk_at "evl") hc4' (by intro _ _; rfl)))) Tr.and_nil)) ?_
          refine XS.brk ⟨?_, by simp⟩
          dsimp only [Turn, After]
          refine XS.ret (v := .ref (H.length + 1)) (by walk_at "ev") ?_
          refine ⟨H.length + 1, rfl, ?_, hK3.trans hK4⟩
          have hD4 := hK4.at hD3
          rw [fr, h4, frSeq, hb]; simpa using hD4
    | alt es =>
      refine XC.def (n := k + 2) (ps := ["e", "rules_of", "hollow_names"]) G (by k_is) (by k_is) rfl rfl (ar3 fun _ _ _ => rfl) (by decide) (by decide) (by decide) rfl rfl rfl ?_
      obtain ⟨i, j, us, rfl, hi0, hj, hes⟩ := id he
      have hk' : hgts es ≤ k := Nat.le_of_succ_le_succ hk
      have hz' : szs es ≤ 1000 := by rw [sz] at hz; exact Nat.le_of_lt (by assumption)
      have hKa : Kp [] H (H ++ [AObj.list (orL.map AVal.str)]) := Kp.refl.app _
      have hKb : Kp [] H (H ++ [AObj.list (orL.map AVal.str)] ++ [.list []]) := hKa.app _
      have hi1 := hKb.at hi0
      have hDl : (H ++ [AObj.list (orL.map AVal.str)]).length = H.length + 1 := by simp
      refine XS.skip (by walk_at "tr") ?_
      refine XS.skip (by walk_at "tr") ?_
      refine XS.skip (Tr.cmp (by walk_at "ev") (Ev.list (vs := orL.map AVal.str) (by walk_at "evl") (by simp)) (op_inLs' (ys := orL) app_at (by decide)) hm_list) ?_
      dsimp only
      refine XS.assign (Ev.list EvL.nil (by simp)) rfl (by decide) ?_
      dsimp only
      refine XS.forL (i := j) (vs := us) (by walk_at "ev") (hKb.at hj) (XL.run (HD1 H k ps (frAlt fun x => strIn x hs) es i ri hi)
        (fun vs st h => ?_) (fun st h => ?_) (fun v vs st h => ?_) _ _ ⟨es, [], _, _, hes, hk', by simpa using hz', by simp, rfl, hKb, by simp, by rw [← hDl]; rfl, rfl, rfl, rfl⟩)
      · obtain ⟨_, _, H1, l, _, _, _, _, rfl, hK, _⟩ := h; exact hK.at hj
      · obtain ⟨es1, xs, H1, l, h1, _, _, h4, rfl, hK, hD, q1, q2, q3, q4⟩ := h
        cases h1.inv_nil
        refine XS.ret (v := .ref (H.length + 1)) (by walk_at "ev") ?_
        refine ⟨H.length + 1, rfl, ?_, hK⟩
        rw [fr, h4, frAlt]; simpa using hD
      · obtain ⟨es1, xs, H1, l, h1, h2, h3, h4, rfl, hK, hD, q1, q2, q3, q4⟩ := h
        obtain ⟨e1, es1, rfl, he1, hes1⟩ := h1.inv_cons
        replace h2 : max (hgt e1) (hgts es1) ≤ k := h2
        rw [szs] at h3
        have hlen1 := fr_len (N := fun x => strIn x hs) e1
        have hlen2 : ((fr (fun x => strIn x hs) e1).filter (hasK ps)).length ≤ (fr (fun x => strIn x hs) e1).length := List.length_filter_le _ _
        obtain ⟨r, H2, hc, f, rfl, f1, f2⟩ := ih e1 v H1 (hK.at hri) (hK.at hh) (by exact om1 (by assumption)) (by exact om13 (by assumption) (by decide)) (he1.kp hK Wr.nil)
        have hK2 := hK.trans f2
        have hD2 := f2.at hD
        have hi2 := hK2.at hi0
        refine ⟨_, As.name rfl (by decide), ?_⟩
        refine XS.next (Ex.aug (v1 := .ref (H.length + 1)) (v2 := .ref f) (v := .ref (H.length + 1)) (st1 := ⟨H2, upd l "item" v⟩) (by walk_at "hyp") rfl (by decide) (Ev.callH (H := H1) (by walk_at "ev") (callForm_K G (by k_is)) (by walk_at "evl") hc (by intro _ _; rfl)) (op_iadd hD2 f1 (by simp; exact om4 (by assumption) (by first | exact Nat.le_refl _ | decide)) (by simp; omega))) ?_
        dsimp only
        rw [← List.map_append]
        have hK3 : Kp [] H (H2.set (H.length + 1) (.list ((xs ++ (fr (fun x => strIn x hs) e1).filter (hasK ps)).map .str))) := hK2.set (.inr (by exact Nat.le_succ _))
        have hD3 : (H2.set (H.length + 1) (.list ((xs ++ (fr (fun x => strIn x hs) e1).filter (hasK ps)).map .str)))[H.length + 1]? = some (.list ((xs ++ (fr (fun x => strIn x hs) e1).filter (hasK ps)).map .str)) := set_at hD2
        generalize H2.set (H.length + 1) (.list ((xs ++ (fr (fun x => strIn x hs) e1).filter (hasK ps)).map .str)) = H3 at *
        have hi3 := hK3.at hi0
        refine XS.skip (Tr.and_f (by walk_at "tr")) ?_
        refine XS.nil ?_
        dsimp only [Turn]
        refine ⟨es1, xs ++ (fr (fun x => strIn x hs) e1).filter (hasK ps), H3, _, hes1, by exact om2 (by assumption), by rw [List.length_append]; omega, ?_, rfl, hK3, hD3, upd_eq, upd_ne (by decide) (upd_ne (by decide) q2), upd_ne (by decide) (upd_ne (by decide) q3), upd_ne (by decide) (upd_ne (by decide) q4)⟩
        rw [h4, frAlt]; simp
end
end

theorem strIn_iff {x : Str} {vs : List Str} : strIn x vs = true ↔ x ∈ vs := by
  unfold strIn
  rw [List.any_eq_true]
  constructor
  · rintro ⟨y, hy, e⟩
    have : y = x := by simpa using e
    rw [← this]; exact hy
  · intro h; exact ⟨x, h, by simp⟩

def step (rs : List (Str × E)) (hs : List Str) : List Str := (rs.filter fun r => mbe (fun x => strIn x hs) r.2).map (·.1)
def stepN (rs : List (Str × E)) : Nat → List Str
  | 0 => []
  | t + 1 => step rs (stepN rs t)
theorem step_mono {rs : List (Str × E)} {a b : List Str} (h : ∀ x, x ∈ a → x ∈ b) : ∀ r : Str × E, mbe (fun x => strIn x a) r.2 = true → mbe (fun x => strIn x b) r.2 = true :=
  fun r hr => mbe_mono (fun x hx => strIn_iff.mpr (h x (strIn_iff.mp hx))) r.2 hr
theorem mem_step {rs : List (Str × E)} {hs : List Str} {x : Str} : x ∈ step rs hs ↔ ∃ r ∈ rs, mbe (fun x => strIn x hs) r.2 = true ∧ r.1 = x := by
  unfold step
  rw [List.mem_map]
  constructor
  · rintro ⟨r, hr, e⟩
    obtain ⟨h1, h2⟩ := List.mem_filter.mp hr
    exact ⟨r, h1, h2, e⟩
  · rintro ⟨r, h1, h2, e⟩
    exact ⟨r, List.mem_filter.mpr ⟨h1, h2⟩, e⟩
theorem step_sub {rs : List (Str × E)} {a b : List Str} (h : ∀ x, x ∈ a → x ∈ b) : ∀ x, x ∈ step rs a → x ∈ step rs b := fun x hx => by
  obtain ⟨r, h1, h2, e⟩ := mem_step.mp hx
  exact mem_step.mpr ⟨r, h1, step_mono (rs := rs) h r h2, e⟩
theorem stepN_sub {rs : List (Str × E)} : ∀ t x, x ∈ stepN rs t → x ∈ stepN rs (t + 1)
  | 0, x, h => by simp [stepN] at h
  | t + 1, x, h => step_sub (stepN_sub t) x h
theorem filter_le {α : Type} {p q : α → Bool} : ∀ {l : List α}, (∀ x ∈ l, p x = true → q x = true) → (l.filter p).length ≤ (l.filter q).length ∧ ((l.filter p).length = (l.filter q).length → l.filter p = l.filter q)
  | [], _ => ⟨Nat.le_refl _, fun _ => rfl⟩
  | x :: l, h => by
    obtain ⟨h1, h2⟩ := filter_le (p := p) (q := q) (l := l) fun y hy => h y (List.mem_cons_of_mem _ hy)
    cases hp : p x with
    | true =>
      have hq := h x List.mem_cons_self hp
      rw [List.filter_cons_of_pos hp, List.filter_cons_of_pos hq]
      refine ⟨by simp; exact h1, fun e => ?_⟩
      rw [h2 (by simpa using e)]
    | false =>
      rw [List.filter_cons_of_neg (by simp [hp])]
      cases hq : q x with
      | true =>
        rw [List.filter_cons_of_pos hq]
        refine ⟨by simp; exact Nat.le_succ_of_le (by assumption), fun e => ?_⟩
        simp at e; omega
      | false =>
        rw [List.filter_cons_of_neg (by simp [hq])]
        exact ⟨h1, h2⟩
theorem stepN_len {rs : List (Str × E)} : ∀ t, stepN rs (t + 1) = stepN rs t ∨ t ≤ (stepN rs t).length
  | 0 => .inr (Nat.zero_le _)
  | t + 1 => by
    rcases stepN_len (rs := rs) t with h | h
    · left
      show step rs (stepN rs (t + 1)) = stepN rs (t + 1)
      rw [h]; exact h
    · by_cases he : stepN rs (t + 1) = stepN rs t
      · left
        show step rs (stepN rs (t + 1)) = stepN rs (t + 1)
        rw [he]; exact he
      · right
        cases t with
        | zero =>
          cases hl : stepN rs 1 with
          | nil => exact absurd hl he
          | cons _ _ => simp
        | succ t =>
          have hm : ∀ r ∈ rs, mbe (fun x => strIn x (stepN rs t)) r.2 = true → mbe (fun x => strIn x (stepN rs (t + 1))) r.2 = true := fun r _ hr => step_mono (rs := rs) (stepN_sub t) r hr
          obtain ⟨h1, h2⟩ := filter_le hm
          have e1 : (stepN rs (t + 1)).length = (rs.filter fun r => mbe (fun x => strIn x (stepN rs t)) r.2).length := by show (step rs _).length = _; unfold step; simp
          have e2 : (stepN rs (t + 1 + 1)).length = (rs.filter fun r => mbe (fun x => strIn x (stepN rs (t + 1))) r.2).length := by show (step rs _).length = _; unfold step; simp
          have hne : (stepN rs (t + 1)).length ≠ (stepN rs (t + 1 + 1)).length := fun e => he (by
            rw [e1, e2] at e
            have := h2 e
            show step rs _ = step rs _
            unfold step; rw [this])
          omega
theorem stepN_stable {rs : List (Str × E)} : stepN rs (rs.length + 1) = stepN rs rs.length := by
  rcases stepN_len (rs := rs) rs.length with h | h
  · exact h
  · cases hn : rs.length with
    | zero =>
      have : rs = [] := List.length_eq_zero_iff.mp hn
      subst this; rfl
    | succ t =>
      rw [hn] at h
      have hm : ∀ r ∈ rs, mbe (fun x => strIn x (stepN rs t)) r.2 = true → mbe (fun x => strIn x (stepN rs (t + 1))) r.2 = true := fun r _ hr => step_mono (rs := rs) (stepN_sub t) r hr
      obtain ⟨h1, h2⟩ := filter_le hm
      have e1 : (stepN rs (t + 1)).length = (rs.filter fun r => mbe (fun x => strIn x (stepN rs t)) r.2).length := by show (step rs _).length = _; unfold step; simp
      have e2 : (rs.filter fun r => mbe (fun x => strIn x (stepN rs (t + 1))) r.2).length ≤ rs.length := List.length_filter_le _ _
      have := h2 (by omega)
      show step rs _ = step rs _
      unfold step; rw [this]

theorem eget_of_mem {rs : List (Str × E)} {r : Str × E} (hn : (rs.map (·.1)).Nodup) (h : r ∈ rs) : eget rs r.1 = some r.2 := by
  induction rs with
  | nil => cases h
  | cons p rs ih =>
    rw [List.map_cons, List.nodup_cons] at hn
    rcases List.mem_cons.mp h with rfl | h
    · simp [eget]
    · have hne : ¬ p.1 = r.1 := fun e => hn.1 (e ▸ List.mem_map.mpr ⟨r, h, rfl⟩)
      have := ih hn.2 h
      simp only [eget, List.find?_cons, hne, decide_false] at this ⊢
      exact this

theorem hollow_eq {rs : List (Str × E)} {N : Str → Bool} (hn : (rs.map (·.1)).Nodup) (L : Least rs N) : ∀ x, strIn x (stepN rs rs.length) = N x := by
  have low : ∀ t x, x ∈ stepN rs t → N x = true := fun t => by
    induction t with
    | zero => intro x h; simp [stepN] at h
    | succ t ih =>
      intro x h
      obtain ⟨r, h1, h2, e⟩ := mem_step.mp h
      exact L.closed x r.2 (e ▸ eget_of_mem hn h1) (mbe_mono (fun y hy => ih y (strIn_iff.mp hy)) r.2 h2)
  intro x
  rw [Bool.eq_iff_iff, strIn_iff]
  refine ⟨low _ x, fun h => ?_⟩
  refine strIn_iff.mp (L.least (fun y => strIn y (stepN rs rs.length)) (fun y e he hm => ?_) x h)
  rw [strIn_iff, ← stepN_stable]
  exact mem_step.mpr ⟨(y, e), eget_mem he, hm, rfl⟩
theorem Least.eq {rs : List (Str × E)} {N : Str → Bool} (L : Least rs N) {x : Str} {e : E} (h : eget rs x = some e) : mbe N e = N x := by
  rw [Bool.eq_iff_iff]
  refine ⟨L.closed x e h, fun hx => ?_⟩
  obtain ⟨e', h1, h2⟩ := L.sup x hx
  rw [h] at h1; cases h1; exact h2

mutual
theorem okX_okE {rs : List (Str × E)} {nm : List Str} (h : ∀ x ∈ nm, ∃ e, eget rs x = some e) : ∀ e : E, okX nm e → okE rs ["+", "t", "eof"] e
  | .name x, he => by
    rw [okX] at he; rw [okE]
    rcases he with he | rfl
    · exact .inl (h x he)
    · exact .inr (by simp)
  | .text x, he => by rw [okX] at he; rw [okE, he]; simp
  | .opt e, he => by rw [okX] at he; rw [okE]; exact okX_okE h e he
  | .rep e, he => by rw [okX] at he; rw [okE]; exact okX_okE h e he
  | .seq es, he => by rw [okX] at he; rw [okE]; exact ⟨okXs_okEs h es he.1, by omega⟩
  | .alt es, he => by rw [okX] at he; rw [okE]; exact ⟨okXs_okEs h es he.1, by omega⟩
theorem okXs_okEs {rs : List (Str × E)} {nm : List Str} (h : ∀ x ∈ nm, ∃ e, eget rs x = some e) : ∀ es : List E, okXs nm es → okEs rs ["+", "t", "eof"] es
  | [], _ => by rw [okEs]; trivial
  | e :: es, he => by rw [okXs] at he; rw [okEs]; exact ⟨okX_okE h e he.1, okXs_okEs h es he.2⟩
end

section
variable {w : World} {b₀ : Heap} {n : Nat} {cx cx' : Cx} {st st1 st2 st3 : ASt} {v v1 v2 v3 : AVal} {pos apos : Pos} {x : Str} {K : Frag} {H : List AObj} {f : AFlow}
theorem op_add' {a b c : Int} (h : a + b = c) : Op2 w b₀ n (binaryOp .Add) VR (.int a) (.int b) H (.int c) H := h ▸ op_add
theorem op_neb' {a b c : Bool} (h : (a != b) = c) : Op2 w b₀ n (compareOp .NotEq) VR (.bool a) (.bool b) H (.bool c) H := h ▸ op_neb
theorem op_ninLs' {i : Nat} {ys : List Str} {c : Bool} (ho : H[i]? = some (.list (ys.map .str))) (h : (!strIn x ys) = c) : Op2 w b₀ n (compareOp .NotIn) VR (.str x) (.ref i) H (.bool c) H := h ▸ op_ninLs ho
theorem op_neNil' {i j : Nat} {vs : List AVal} {c : Bool} (hi : H[i]? = some (.list vs)) (hj : H[j]? = some (.list [])) (h : (!vs.isEmpty) = c) : Op2 w b₀ n (compareOp .NotEq) VR (.ref i) (.ref j) H (.bool c) H := h ▸ op_neNil hi hj
theorem XS.assignC {e : Expr} {ts : List Stmt} {p : Pos} {Post : AFlow → ASt → Prop} (h : Ev w b₀ n cx e st v st1) (hk : cx.sc.names.lookup x = some .cell) (hc : x ∈ cx.cn) (hnd : cx.cn.Nodup) (hp : XS w b₀ n cx ts { st1 with loc := upd st1.loc x v } Post) (hs : ∀ env, EnvOK cx env → swapsWith e (some (.Name x p)) pos.line env = pure false) :
    XS w b₀ n cx (.Assign [.Name x p] e pos :: ts) st Post := XS.next (Ex.assignC h hk hc hnd hs) hp
theorem XS.assignCV {e : Expr} {ts : List Stmt} {p : Pos} {Post : AFlow → ASt → Prop} (h : XV w b₀ n cx e st fun v st1 => XS w b₀ n cx ts { st1 with loc := upd st1.loc x v } Post) (hk : cx.sc.names.lookup x = some .cell) (hc : x ∈ cx.cn) (hnd : cx.cn.Nodup) (hs : ∀ env, EnvOK cx env → swapsWith e (some (.Name x p)) pos.line env = pure false) :
    XS w b₀ n cx (.Assign [.Name x p] e pos :: ts) st Post := by
  obtain ⟨v, st1, h1, h2⟩ := h
  exact XS.assignC h1 hk hc hnd h2 hs
theorem XS.assignCall2 {func a1 a2 : Expr} {fv : Value} {ts : List Stmt} {p cpos : Pos} {Post : AFlow → ASt → Prop} (hf : Ev w b₀ n cx func st (.val fv) st) (hk : CallForm fv b₀ w)
    (h1 : XV w b₀ n cx a1 st fun v1 st1 => ∃ v2 v H', Ev w b₀ n cx a2 st1 v2 st1 ∧ Cal w b₀ n (.val fv) [v1, v2] st1.H v H' ∧ XS w b₀ n cx ts ⟨H', upd st1.loc x v⟩ Post)
    (hkd : cx.sc.names.lookup x = some .local) (hc : x ∉ cx.cn) (hp : argsPlain [a1, a2])
    (hs1 : ∀ env, starEach [a1, a2] env = (false, eval a1 env) :: starEach [a2] env) (hs2 : ∀ env, starEach [a2] env = (false, eval a2 env) :: starEach [] env)
    (he : ∀ env, eval (.Call func [a1, a2] [] cpos) env = (do callWith cpos (← eval func env) [] (backTo cpos (starEach [a1, a2] env)) (backToKw cpos (keywordEach [] env))))
    (hs : ∀ env, swapsWith (.Call func [a1, a2] [] cpos) (some (.Name x p)) pos.line env = pure false) :
    XS w b₀ n cx (.Assign [.Name x p] (.Call func [a1, a2] [] cpos) pos :: ts) st Post := by
  obtain ⟨v1, st1, h2, v2, v, H', h3, h4, h5⟩ := h1
  exact XS.assign (Ev.call hf hk (EvL.cons h2 (EvL.cons h3 EvL.nil hs2) hs1) h4 hp he) hkd hc h5 hs
theorem body_of {K : Frag} {fa : Addr} {Pd : List Stmt → Scope → Prop} {name qual name' qual' : Str} {params params' : Arguments} {body body' : List Stmt} {scope scope' : Scope} {dV kV doc pm cdv ct oc dV' kV' doc' pm' cdv' ct' oc' : Value} {an od an' od' : Option Addr} {osl osl' : Array (Option Value)}
    (h0 : K.lookup fa = some ⟨oc', od', .func (fnOf name' qual' params' body' scope' dV' kV' doc' pm' an' cdv' ct'), osl'⟩) (h : K.lookup fa = some ⟨oc, od, .func (fnOf name qual params body scope dV kV doc pm an cdv ct), osl⟩) (hx : Pd body' scope') : Pd body scope := by
  rw [h0] at h
  have h1 := Option.some.inj h
  injection h1 with _ _ h2 _
  injection h2 with h3
  injection h3 with _ _ _ h4 h5 _ _ _ _ _ _ _ _ _ _
  injection h4 with h6
  rw [← h6, ← h5]; exact hx
end

/-- tuples of names and trees: the tuples in one heap, the trees in another -/
def Rl2 (H0 H : List AObj) : List (Str × E) → List AVal → Prop
  | [], [] => True
  | r :: rs, v :: vs => (∃ i u, v = .ref i ∧ H[i]? = some (.tup [.str r.1, u]) ∧ IsE H0 r.2 u) ∧ Rl2 H0 H rs vs
  | _, _ => False
theorem Rl2.ind {H0 H : List AObj} {P : List (Str × E) → List AVal → Prop} (h0 : P [] []) (h1 : ∀ r rs v vs, (∃ i u, v = .ref i ∧ H[i]? = some (.tup [.str r.1, u]) ∧ IsE H0 r.2 u) → Rl2 H0 H rs vs → P rs vs → P (r :: rs) (v :: vs)) : ∀ {rs : List (Str × E)} {vs : List AVal}, Rl2 H0 H rs vs → P rs vs := by
  intro rs
  induction rs with
  | nil => intro vs h; cases vs with | nil => exact h0 | cons _ _ => exact False.elim h
  | cons r rs ih => intro vs h; cases vs with | nil => exact False.elim h | cons v vs => exact h1 _ _ _ _ h.1 h.2 (ih h.2)
theorem Rl2.mono {H0 H H' : List AObj} (ht : ∀ (i : Nat) (us : List AVal), H[i]? = some (AObj.tup us) → H'[i]? = some (AObj.tup us)) {rs : List (Str × E)} {vs : List AVal} (h : Rl2 H0 H rs vs) : Rl2 H0 H' rs vs :=
  h.ind (P := Rl2 H0 H') trivial fun _ _ _ _ ⟨i, u, h1, h2, h3⟩ _ ih => ⟨⟨i, u, h1, ht _ _ h2, h3⟩, ih⟩
theorem Rl2.snoc {H0 H : List AObj} {r : Str × E} {v : AVal} (h : ∃ i u, v = .ref i ∧ H[i]? = some (.tup [.str r.1, u]) ∧ IsE H0 r.2 u) {rs : List (Str × E)} {vs : List AVal} (hh : Rl2 H0 H rs vs) : Rl2 H0 H (rs ++ [r]) (vs ++ [v]) :=
  hh.ind (P := fun rs vs => Rl2 H0 H (rs ++ [r]) (vs ++ [v])) ⟨h, trivial⟩ fun _ _ _ _ a _ ih => ⟨a, ih⟩
theorem Rl2.toRl {H0 H : List AObj} (a : Kp [] H0 H) {rs : List (Str × E)} {vs : List AVal} (h : Rl2 H0 H rs vs) : IsRl H rs vs :=
  h.ind (P := IsRl H) trivial fun _ _ _ _ ⟨i, u, h1, h2, h3⟩ _ ih => ⟨⟨i, u, h1, h2, h3.kp a Wr.nil⟩, ih⟩

section
variable {rs : List (Str × E)} {N : Str → Bool} {a x : Str} {met ah : List Str} {m : Nat} {ps : List (Str × AVal)}

structure WL (rs : List (Str × E)) (N : Str → Bool) (a : Str) (met ah : List Str) (m : Nat) : Prop where
  nodup : met.Nodup
  memM : ∀ x ∈ met, x ∈ rs.map (·.1)
  memA : ∀ x ∈ ah, x ∈ rs.map (·.1)
  meas : m = ah.length + uns (fun x => strIn x met) rs
  bound : m ≤ 1000
  soundM : ∀ x ∈ met, Rch rs N a x
  soundA : ∀ x ∈ ah, Rch rs N a x
  full : ∀ y e, (y = a ∨ y ∈ met) → eget rs y = some e → ∀ x ∈ fr N e, x ∈ rs.map (·.1) → x ∈ met ∨ x ∈ ah

theorem mem_heads (hp : ∀ x, hasK ps x = true ↔ x ∈ rs.map (·.1)) {e : E} : x ∈ (fr N e).filter (hasK ps) ↔ x ∈ fr N e ∧ x ∈ rs.map (·.1) := by
  rw [List.mem_filter, hp]

theorem WL.init (hp : ∀ x, hasK ps x = true ↔ x ∈ rs.map (·.1)) {e : E} (he : eget rs a = some e) (hs : sz e ≤ 100) (hb : uns (fun x => strIn x []) rs ≤ 800) : ∃ m, WL rs N a [] ((fr N e).filter (hasK ps)) m := by
  have hl : ((fr N e).filter (hasK ps)).length ≤ sz e := Nat.le_trans (List.length_filter_le _ _) (fr_len e)
  refine ⟨_, ⟨List.nodup_nil, by simp, fun x hx => ((mem_heads hp).mp hx).2, rfl, by omega, by simp, fun x hx => .one he ((mem_heads hp).mp hx).1, fun y e' hy he' x hx hx' => .inr ?_⟩⟩
  rcases hy with rfl | hy
  · rw [he] at he'; cases he'
    exact (mem_heads hp).mpr ⟨hx, hx'⟩
  · simp at hy
theorem WL.skip (S : WL rs N a met (ah ++ [x]) m) (hx : x ∈ met) : ∃ m', m' < m ∧ WL rs N a met ah m' := by
  have hm := S.meas
  have hb := S.bound
  rw [List.length_append, List.length_singleton] at hm
  have hlt : ah.length + uns (fun x => strIn x met) rs < m := Nat.lt_of_lt_of_eq (Nat.add_lt_add_right (Nat.lt_succ_self _) _) hm.symm
  refine ⟨ah.length + uns (fun x => strIn x met) rs, hlt, ⟨S.nodup, S.memM, fun y hy => S.memA y (List.mem_append_left _ hy), rfl, Nat.le_trans (Nat.le_of_lt hlt) hb, S.soundM, fun y hy => S.soundA y (List.mem_append_left _ hy), fun y e hy he z hz hz' => ?_⟩⟩
  rcases S.full y e hy he z hz hz' with h | h
  · exact .inl h
  · rcases List.mem_append.mp h with h | h
    · exact .inr h
    · rw [List.mem_singleton.mp h]; exact .inl hx
theorem WL.add (S : WL rs N a met (ah ++ [x]) m) (hp : ∀ x, hasK ps x = true ↔ x ∈ rs.map (·.1)) (hx : x ∉ met) {e : E} (he : eget rs x = some e) : ∃ m', m' < m ∧ WL rs N a (met ++ [x]) (ah ++ (fr N e).filter (hasK ps)) m' := by
  have hm := S.meas
  have hb := S.bound
  rw [List.length_append, List.length_singleton] at hm
  have hl : ((fr N e).filter (hasK ps)).length ≤ sz e := Nat.le_trans (List.length_filter_le _ _) (fr_len e)
  have hu := uns_mark (s := fun y => strIn y met) (s' := fun y => strIn y (met ++ [x])) (x := x) (e := e) (rs := rs) (fun y hy => strIn_iff.mpr (List.mem_append_left _ (strIn_iff.mp hy)))
    (by cases h : strIn x met with | false => rfl | true => exact absurd (strIn_iff.mp h) hx) (strIn_iff.mpr (by simp)) he
  have hR : Rch rs N a x := S.soundA x (by simp)
  have hlt : ah.length + ((fr N e).filter (hasK ps)).length + uns (fun y => strIn y (met ++ [x])) rs < m := Nat.lt_of_lt_of_eq (om20 hl hu) hm.symm
  refine ⟨(ah ++ (fr N e).filter (hasK ps)).length + uns (fun y => strIn y (met ++ [x])) rs, by rw [List.length_append]; exact hlt, ⟨?_, fun y hy => ?_, fun y hy => ?_, rfl, by rw [List.length_append]; exact Nat.le_trans (Nat.le_of_lt hlt) hb, fun y hy => ?_, fun y hy => ?_, fun y e' hy he' z hz hz' => ?_⟩⟩
  · rw [List.nodup_append]
    exact ⟨S.nodup, by simp, fun y hy z hz => by rw [List.mem_singleton.mp hz]; rintro rfl; exact hx hy⟩
  · rcases List.mem_append.mp hy with h | h
    · exact S.memM y h
    · rw [List.mem_singleton.mp h]; exact eget_key.mp ⟨e, he⟩
  · rcases List.mem_append.mp hy with h | h
    · exact S.memA y (List.mem_append_left _ h)
    · exact ((mem_heads hp).mp h).2
  · rcases List.mem_append.mp hy with h | h
    · exact S.soundM y h
    · rw [List.mem_singleton.mp h]; exact hR
  · rcases List.mem_append.mp hy with h | h
    · exact S.soundA y (List.mem_append_left _ h)
    · exact .step hR he ((mem_heads hp).mp h).1
  · have old : (y = a ∨ y ∈ met) → z ∈ met ++ [x] ∨ z ∈ ah ++ (fr N e).filter (hasK ps) := fun hy' => by
      rcases S.full y e' hy' he' z hz hz' with h | h
      · exact .inl (List.mem_append_left _ h)
      · rcases List.mem_append.mp h with h | h
        · exact .inr (List.mem_append_left _ h)
        · exact .inl (List.mem_append_right _ h)
    rcases hy with h | h
    · exact old (.inl h)
    · rcases List.mem_append.mp h with h | h
      · exact old (.inr h)
      · rw [List.mem_singleton] at h
        subst h
        rw [he] at he'; cases he'
        exact .inr (List.mem_append_right _ ((mem_heads hp).mpr ⟨hz, hz'⟩))
theorem WL.done (S : WL rs N a met [] m) (ha : a ∈ rs.map (·.1)) : strIn a met = true ↔ Rch rs N a a := by
  rw [strIn_iff]
  refine ⟨S.soundM a, fun h => ?_⟩
  have key : ∀ x, Rch rs N a x → x ∈ rs.map (·.1) → x ∈ met := fun x hx => by
    induction hx with
    | one he hx =>
      intro hm
      rcases S.full a _ (.inl rfl) he _ hx hm with h | h
      · exact h
      · simp at h
    | step _ he hx ih =>
      intro hm
      rcases S.full _ _ (.inr (ih (eget_key.mp ⟨_, he⟩))) he _ hx hm with h | h
      · exact h
      · simp at h
  exact key a h ha
theorem WL.lenM (S : WL rs N a met ah m) : met.length ≤ rs.length := by
  have := nodup_len S.nodup S.memM
  simpa using this
theorem WL.lenA (S : WL rs N a met ah m) : ah.length ≤ 1000 := by have := S.meas; have := S.bound; omega
end

section
variable {w : World} {b₀ : Heap} {n : Nat} {P : Params} {H : List AObj}

structure LS (H7 : List AObj) (l7 : Str → Option AVal) (r1 : List (Str × E)) (ps : List (Str × AVal)) (em kvs ps5 sd : List (Str × AVal)) (gi di ti mi ni si : Nat) : Prop where
  hnd : (r1.map (·.1)).Nodup
  hsm : r1.length ≤ 4
  hlow : ∀ x e, eget r1 x = some e → hgt e ≤ 2
  hsz : ∀ r ∈ r1, sz r.2 ≤ 13
  hpk : ∀ x, hasK ps x = true ↔ x ∈ r1.map (·.1)
  hG7 : Gram H7 r1 gi di ti mi kvs ps5 em
  hn8 : H7[ni]? = some (.list ((r1.map (·.1)).map .str))
  hD : H7[si]? = some (.dict sd)
  hst : ∀ r ∈ r1, ∃ f, aget sd r.1 = some (.ref f) ∧ H7[f]? = some (.list (((fr (hasK em) r.2).filter (hasK ps)).map .str))
  s0 : l7 "steps_of" = some (.ref si)
  s2 : l7 "rule_names" = some (.ref ni)
  s4 : l7 "made" = some (.ref gi)
def LMid : AFlow → ASt → Prop := fun f st => f = .next ∧ ∃ H7 l7 r1 ps em kvs ps5 sd gi di ti mi ni si, st = ⟨H7, l7⟩ ∧ LS H7 l7 r1 ps em kvs ps5 sd gi di ti mi ni si
abbrev ABCD : List Str := ["A", "B", "C", "D"]
inductive LH1 (bf ai ni ri : Nat) (bs : List Int) (nm : List Str) (vs : List AVal) (st : ASt) : Prop
  | mk : ∀ (rem : List Str) (rs : List (Str × E)) (ps : List (Str × AVal)) (p : Nat) (H1 : List AObj) (l : Str → Option AVal), vs = rem.map AVal.str → rs.map (·.1) ++ rem = nm → st = ⟨H1, l⟩ → H1[bf]? = some (.list (bs.map .int)) → H1[ai]? = some (.lst [.int ((p : Nat) : Int)]) → p < 140 → H1[ni]? = some (.list (nm.map .str)) → H1[ri]? = some (.dict ps) → IsT H1 rs ps → (∀ r ∈ rs, Tree 2 nm r.2) →
      l "beads" = some (.ref bf) → l "at" = some (.ref ai) → l "rule_names" = some (.ref ni) → l "rules_of" = some (.ref ri) → LH1 bf ai ni ri bs nm vs st
inductive LH2 (H1 : List AObj) (rs : List (Str × E)) (vs : List AVal) (Hc : List AObj) (acc : List AVal) : Prop
  | mk : ∀ (rsd remrs : List (Str × E)), rsd ++ remrs = rs → vs = (remrs.map (·.1)).map AVal.str → Rl2 H1 Hc rsd acc → Kp [] H1 Hc → Hc[H1.length]? = some (.list acc) → LH2 H1 rs vs Hc acc
inductive LH3 (H5 : List AObj) (rsd : List (Str × E)) (ni ri gi : Nat) (vs : List AVal) (st : ASt) : Prop
  | mk : ∀ (t hi : Nat) (H6 : List AObj) (l : Str → Option AVal), t + vs.length = rsd.length → st = ⟨H6, l⟩ → Kp [] H5 H6 → H6[hi]? = some (.list ((stepN rsd t).map .str)) → l "hollow_names" = some (.ref hi) → l "rule_names" = some (.ref ni) → l "rules_of" = some (.ref ri) → l "made" = some (.ref gi) → LH3 H5 rsd ni ri gi vs st
inductive LH4 (H6 : List AObj) (rsd : List (Str × E)) (t : Nat) (vs : List AVal) (Hc : List AObj) (acc : List AVal) : Prop
  | mk : ∀ (r1 r2 : List (Str × E)), r1 ++ r2 = rsd → vs = (r2.map (·.1)).map AVal.str → acc = ((r1.filter fun r => mbe (fun x => strIn x (stepN rsd t)) r.2).map (·.1)).map AVal.str → Kp [] H6 Hc → Hc[H6.length]? = some (.list acc) → LH4 H6 rsd t vs Hc acc
inductive LH5 (H6 : List AObj) (rsd : List (Str × E)) (em ps : List (Str × AVal)) (hi ni ri gi : Nat) (vs : List AVal) (st : ASt) : Prop
  | mk : ∀ (r1 r2 : List (Str × E)) (sd : List (Str × AVal)) (H7 : List AObj) (l : Str → Option AVal), r1 ++ r2 = rsd → vs = (r2.map (·.1)).map AVal.str → st = ⟨H7, l⟩ → Kp [] H6 H7 → H7[H6.length]? = some (.dict sd) → TokD (rsd.map (·.1)) sd → (∀ r ∈ r1, ∃ f, aget sd r.1 = some (.ref f) ∧ H7[f]? = some (.list (((fr (hasK em) r.2).filter (hasK ps)).map .str))) →
      l "steps_of" = some (.ref H6.length) → l "hollow_names" = some (.ref hi) → l "rule_names" = some (.ref ni) → l "rules_of" = some (.ref ri) → l "made" = some (.ref gi) → LH5 H6 rsd em ps hi ni ri gi vs st
theorem law_head {l : Addr} {zs : List Int} {us : List Value} {name qual : Str} {params : Arguments} {body : List Stmt} {scope : Scope} {dV kV doc pm cdv ct oc : Value} {an od : Option Addr} {osl : Array (Option Value)} (G : Glo (hd.heap_39 P) b₀) (hl : b₀.IsList l (List.toArray us)) (hv : VRs [] (zs.map .int) us) (hz : zs.length ≤ 63)
    (ho : (hd.heap_39 P).lookup 162 = some ⟨oc, od, .func (fnOf name qual params body scope dV kV doc pm an cdv ct), osl⟩) :
    XS w b₀ 13 ⟨scope, cellNames scope⟩ (body.take 10) ⟨[], fun x => ((["script"] : List Str).zip [AVal.val (.ref l)]).lookup x⟩ LMid := by
  refine body_of (Pd := fun body scope => XS w b₀ 13 ⟨scope, cellNames scope⟩ (body.take 10) ⟨[], fun x => ((["script"] : List Str).zip [AVal.val (.ref l)]).lookup x⟩ LMid) (by k_is) ho ?_
  dsimp only [List.take]
  clear ho
  obtain ⟨cd, PC⟩ := gcls P
  -- beads
  obtain ⟨r, H1, hc1, bf, bs, rfl, hb1, hbs, hbl, hbl2, _⟩ := beads_spec (w := w) (H := []) G hl hv hz
  have hc1' := hc1.mono (show 5 ≤ 13 by decide)
  refine XS.assign (Ev.callH (H := []) (by walk_at "ev") (callForm_K G (by k_is)) (by walk_at "evl") hc1' (by intro _ _; rfl)) rfl (by decide) ?_
  -- rule_names
  obtain ⟨z0, hz0, hz1, hz2⟩ := bead_at hbs hbl (q := 0) (by decide)
  obtain ⟨q, hq1, hq2⟩ := fm_nat (a := z0) (b := 4) (by decide)
  have hk1 : (1 : Int) + (q : Int) = ((1 + q : Nat) : Int) := by omega
  have hab : (H1 ++ [AObj.list (ABCD.map AVal.str)])[H1.length]? = some (.list (ABCD.map AVal.str)) := app_at
  have hbab : (H1 ++ [AObj.list (ABCD.map AVal.str)])[bf]? = some (.list (bs.map .int)) := app_lt hb1
  refine XS.assign (v := .ref (H1.length + 1)) (st1 := ⟨H1 ++ [.list (ABCD.map AVal.str)] ++ [.list ((ABCD.take (1 + q)).map AVal.str)], upd (fun x => List.lookup x ((["script"] : List Str).zip [AVal.val (.ref l)])) "beads" (.ref bf)⟩) ?names rfl (by decide) ?_
  case names =>
    have hsl : (H1 ++ [AObj.list (ABCD.map AVal.str)]).length = H1.length + 1 := by simp
    rw [← hsl, List.map_take]
    refine' Ev.slice (k := 1 + q) (st1 := ⟨H1 ++ [.list (ABCD.map AVal.str)], upd (fun x => List.lookup x ((["script"] : List Str).zip [AVal.val (.ref l)])) "beads" (.ref bf)⟩) (st2 := ⟨H1 ++ [.list (ABCD.map AVal.str)], upd (fun x => List.lookup x ((["script"] : List Str).zip [AVal.val (.ref l)])) "beads" (.ref bf)⟩) ?sl1 ?sl2 hab (by simp)
    case sl1 =>
      refine' Ev.list (vs := ABCD.map AVal.str) (st1 := ⟨H1, upd (fun x => List.lookup x ((["script"] : List Str).zip [AVal.val (.ref l)])) "beads" (.ref bf)⟩) ?sl3 (by simp)
      case sl3 => walk_at "evl"
    case sl2 =>
      refine' Ev.bin0 (v2 := .int (q : Int)) Ev.int (Ev.bin0 ?sl4 Ev.int (op_mod' (by decide) hq1)) (op_add' hk1)
      case sl4 => exact Ev.sub0 (v2 := .int 0) (by walk_at "ev") Ev.int hbab rfl (op_getL (j := 0) hbab (by decide) hz0) hs_c
  have hnd : (ABCD.take (1 + q)).Nodup := (by decide : ABCD.Nodup).sublist (List.take_sublist _ _)
  have hnl : (ABCD.take (1 + q)).length = 1 + q := by rw [List.length_take]; show min (1 + q) 4 = _; omega
  have hni : (H1 ++ [AObj.list (ABCD.map AVal.str)] ++ [.list ((ABCD.take (1 + q)).map AVal.str)])[H1.length + 1]? = some (.list ((ABCD.take (1 + q)).map .str)) := by
    rw [show H1.length + 1 = (H1 ++ [AObj.list (ABCD.map AVal.str)]).length by simp]; exact app_at
  have hbi := app_lt (l := [AObj.list ((ABCD.take (1 + q)).map AVal.str)]) hbab
  have hn0 : 0 < (ABCD.take (1 + q)).length := by omega
  have hn4 : (ABCD.take (1 + q)).length ≤ 4 := by omega
  clear hc1 hc1' hab hbab hb1 hnl hz0 hz1 hz2 hq1 hk1
  generalize ABCD.take (1 + q) = nm at *
  generalize H1.length + 1 = ni at *
  generalize H1 ++ [AObj.list (ABCD.map AVal.str)] ++ [.list (nm.map AVal.str)] = H2 at *
  dsimp only
  -- at, rules_of
  refine XS.assign (Ev.listX (vs := [.int ((0 : Nat) : Int)]) (EvL.cons Ev.int EvL.nil) (by simp)) rfl (by decide) ?_
  dsimp only
  have hX0 : (H2 ++ [AObj.lst [.int ((0 : Nat) : Int)]])[H2.length]? = some (.lst [.int ((0 : Nat) : Int)]) := app_at
  have hbi1 := app_lt (l := [AObj.lst [.int ((0 : Nat) : Int)]]) hbi
  have hni1 := app_lt (l := [AObj.lst [.int ((0 : Nat) : Int)]]) hni
  generalize H2 ++ [AObj.lst [.int ((0 : Nat) : Int)]] = H3 at *
  generalize H2.length = ai at *
  refine XS.assignC Ev.dict0 rfl (by decide) (by decide) ?_ (fun _ _ => rfl)
  dsimp only
  have hX1 := app_lt (l := [AObj.dict []]) hX0
  have hbi2 := app_lt (l := [AObj.dict []]) hbi1
  have hni2 := app_lt (l := [AObj.dict []]) hni1
  have hri : (H3 ++ [AObj.dict []])[H3.length]? = some (.dict []) := app_at
  clear hX0 hbi hbi1 hni hni1
  generalize H3 ++ [AObj.dict []] = H4 at *
  generalize H3.length = ri at *
  -- the rules
  refine XS.forL (i := ni) (vs := nm.map .str) (by walk_at "ev") hni2 (XL.run (LH1 bf ai ni ri bs nm)
    (fun vs st h => ?_) (fun st h => ?_) (fun v vs st h => ?_) _ _ ⟨nm, [], [], 0, _, _, rfl, rfl, rfl, hbi2, hX1, by decide, hni2, hri, trivial, by simp, rfl, rfl, rfl, rfl⟩)
  · obtain ⟨_, _, _, _, H1, l, _, _, rfl, _, _, _, h, _⟩ := h; exact h
  rotate_left
  · obtain ⟨rem, rs, ps, p, H1, l, hvs, hrm, rfl, hb, hX, hp, hn, hr, hT, htr, q1, q2, q3, q4⟩ := h
    replace hvs := cons_map hvs
    obtain ⟨x, rem, rfl, rfl, rfl⟩ := hvs
    refine ⟨_, As.name rfl (by decide), ?_⟩
    obtain ⟨r, H2, hc, e, p', f1, f2, f3, f4, f5⟩ := expr_spec (w := w) G hbs hbl hn0 (by exact Nat.le_trans (by assumption) (by decide)) 2 (Nat.le_refl _) H1 p hb hX hp hn
    have hc' := hc.mono (show 3 ≤ 13 by decide)
    have hne1 : ai ≠ ri := by rintro rfl; rw [hX] at hr; cases hr
    have hne2 : bf ≠ ri := by rintro rfl; rw [hb] at hr; cases hr
    have hne3 : ni ≠ ri := by rintro rfl; rw [hn] at hr; cases hr
    have hne4 : bf ≠ ai := by rintro rfl; rw [hb] at hX; cases hX
    have hne5 : ni ≠ ai := by rintro rfl; rw [hn] at hX; cases hX
    have hr2 := f5.keep ri _ hr (by simp [Ne.symm hne1])
    have hWr : Wr [ai] H1 := fun i hi => by
      rw [List.mem_singleton] at hi
      subst hi
      exact ⟨fun us e => (by rw [hX] at e; cases e), fun us e => (by rw [hX] at e; cases e)⟩
    have hT2 := hT.kp f5 hWr
    have hps : ps.length ≤ 4 := by
      have h1 := congrArg List.length hT.keys
      have h2 := congrArg List.length hrm
      simp at h1 h2; omega
    have hnew : aget ps x = none := by
      rw [none_iff, hT.keys]
      intro hm
      rw [← hrm, List.nodup_append] at hnd
      exact hnd.2.2 x hm x (by simp) rfl
    refine XS.next (Ex.setItem (v1 := r) (v3 := .str x) (Ev.callH (H := H1) (by walk_at "ev") (callForm_K G (by k_is)) (by walk_at "evl") hc' (by intro _ _; rfl)) (by walk_at "ev") (by walk_at "ev") (op_setD hr2 (by exact Nat.le_trans (by assumption) (by decide)))) ?_
    dsimp only
    have hWr2 : Wr [ri] H2 := fun i hi => by
      rw [List.mem_singleton] at hi
      subst hi
      exact ⟨fun us e => (by rw [hr2] at e; cases e), fun us e => (by rw [hr2] at e; cases e)⟩
    have hK3 : Kp [ri] H2 (H2.set ri (.dict (aput ps x r))) := Kp.refl.set (.inl (by simp))
    refine XS.nil ?_
    dsimp only [Turn]
    refine ⟨rem, rs ++ [(x, e)], aput ps x r, p', _, _, rfl, by rw [List.map_append, List.append_assoc]; exact hrm, rfl, set_ne hne2.symm (f5.keep bf _ hb (by simp [hne4])), set_ne hne1.symm f3, f4, set_ne hne3.symm (f5.keep ni _ hn (by simp [hne5])), set_at hr2, ?_, ?_, upd_ne (by decide) q1, upd_ne (by decide) q2, upd_ne (by decide) q3, upd_ne (by decide) q4⟩
    · have e9 := aput_new (v := r) (none_iff.mp hnew)
      rw [e9] at hK3 ⊢
      exact IsT.snoc ⟨rfl, (f1.isE).kp hK3 hWr2⟩ (hT2.kp hK3 hWr2)
    · intro r' hr'
      rcases List.mem_append.mp hr' with h | h
      · exact htr r' h
      · rw [List.mem_singleton.mp h]; exact f2
  obtain ⟨rem, rs, ps, p, H1, l0, hvs, hrm, rfl, hb, hX, hp, hn, hr, hT, htr, q1, q2, q3, q4⟩ := h
  obtain rfl := nil_map hvs
  rw [List.append_nil] at hrm
  subst hrm
  clear hb hX hp hni2 hri hbi2 hX1 q1 q2 hvs
  have hsm : rs.length ≤ 4 := by simpa using hn4
  have hge : ∀ r ∈ rs, eget rs r.1 = some r.2 := fun r hr => eget_of_mem hnd hr
  have htr' : ∀ x e, eget rs x = some e → Tree 2 (rs.map (·.1)) e := fun x e he => htr _ (eget_mem he)
  have hok : ∀ x e, eget rs x = some e → okE rs ["+", "t", "eof"] e := fun x e he => okX_okE (fun y hy => eget_key.mpr hy) e (htr' x e he).ok
  have hlow : ∀ x e, eget rs x = some e → hgt e ≤ 2 := fun x e he => (htr' x e he).low
  have hsz : ∀ r ∈ rs, sz r.2 ≤ 13 := fun r hr => (htr r hr).size
  -- the grammar
  refine' XS.assignCall2 (fv := .ref 73) ?m1 ?m2 ?m3 rfl (by decide) (by intro _ _; rfl) (fun _ => rfl) (fun _ => rfl) (fun _ => rfl) (fun _ => rfl)
  case m1 => walk_at "ev"
  case m2 => exact callForm_K G (by k_is)
  case m3 =>
  refine' XV.compL (i := ni) (vs := (rs.map (·.1)).map .str) (st1 := ⟨H1, l0⟩) ?m4 hn ⟨by decide, by decide, by decide, rfl, by decide, rfl, by decide, by decide⟩ (by simp; exact Nat.le_trans (by assumption) (by decide))
    (XR.run (LH2 H1 rs) (fun vs Hc acc h => ?m5) (fun Hc acc h => ?m6) (fun v vs Hc acc h => .inl ?m7) _ _ _ ⟨[], rs, rfl, rfl, trivial, Kp.refl.app _, app_at⟩)
  case m4 => walk_at "ev"
  case m5 => obtain ⟨_, _, _, _, _, hK, _⟩ := h; exact hK.at hn
  case m7 =>
    dsimp only at h ⊢
    obtain ⟨rsd, remrs, hrr, hvs, hrl, hK, hD⟩ := h
    replace hvs := cons_mapp hvs
    obtain ⟨r, remrs, rfl, rfl, rfl⟩ := hvs
    have hrm : r ∈ rs := by rw [← hrr]; simp
    obtain ⟨vx, hvx, hvE⟩ := hT.some (hge r hrm)
    have hr' := hK.at hr
    have hDl := lt_of_at hD
    refine ⟨Hc, Hc ++ [.tup [.str r.1, vx]], .ref Hc.length, Tst.nil, ?_, app_lt hD, rsd ++ [r], remrs, by rw [← hrr]; simp, rfl, ?_, (hK.app _).set (.inr (Nat.le_refl _)), set_at (app_lt hD)⟩
    · refine' Ev.tup (st1 := ⟨Hc, _⟩) (vs := [.str r.1, vx]) (EvL.cons ?m8 (EvL.cons (Ev.subD ?m9 ?m10 hr' hvx hs_n) EvL.nil)) (by simp)
      case m8 => exact Ev.loc rfl (by dsimp only; exact upd_eq) rfl
      case m9 => exact Ev.cell rfl (by decide) (by dsimp only; exact upd_ne (by decide) (compBase_get (by decide) q4)) rfl
      case m10 => exact Ev.loc rfl (by dsimp only; exact upd_eq) rfl
    · refine Rl2.snoc ⟨Hc.length, vx, rfl, set_ne (by exact Nat.ne_of_lt (by assumption)) app_at, hvE⟩ (hrl.mono fun i us e => set_ne (fun q => ?_) (app_lt e))
      rw [← q, hD] at e; cases e
  case m6 =>
  obtain ⟨rsd, remrs, hrr, hvs, hrl, hK, hD⟩ := h
  obtain rfl := nil_mapp hvs
  rw [List.append_nil] at hrr
  subst hrr
  clear hvs
  dsimp only
  obtain ⟨r0, rs0, hrs0⟩ : ∃ r0 rs0, rsd = r0 :: rs0 := by cases rsd with | nil => simp at hn0 | cons a b => exact ⟨a, b, rfl⟩
  have hst0 : ((rsd.map (·.1)).map AVal.str)[0]? = some (.str r0.1) := by rw [hrs0]; rfl
  have hstm : r0.1 ∈ rsd.map (·.1) := by rw [hrs0]; simp
  obtain ⟨r, H5, hc5, rfl, hK5, di, ti, mi, kvs, ps5, em, hGr⟩ := grammar_spec (w := w) (tk := ["+", "t", "eof"]) (start := r0.1) (ts := acc) (H := Hc) G (by decide) (by decide) hD (hrl.toRl hK) hnd hsm hlow hok hstm
  have hn5 := hK.at hn
  refine ⟨.str r0.1, .ref (Hc.length + 1), H5, ?_, hc5, ?_⟩
  · exact Ev.sub0 (v2 := .int 0) (by walk_at "ev") Ev.int hn5 rfl (op_getL (j := 0) hn5 (by decide) hst0) hs_c
  have hK6 := hK.trans hK5
  have hT5 := hT.kp hK6 Wr.nil
  have hr5 := hK6.at hr
  have hn6 := hK6.at hn
  generalize Hc.length + 1 = gi at *
  clear hc5 hst0 hrl hD hn5 hK hK5 hK6 hr hn hT hrs0
  -- hollow names
  refine XS.assignC (Ev.list EvL.nil (by simp)) rfl (by decide) (by decide) ?_ (fun _ _ => rfl)
  dsimp only
  refine XS.forL (i := ni) (vs := (rsd.map (·.1)).map .str) (by walk_at "ev") (app_lt hn6) (XL.run (LH3 H5 rsd ni ri gi)
    (fun vs st h => ?_) (fun st h => ?_) (fun v vs st h => ?_) _ _ ⟨0, H5.length, _, _, by simp, rfl, Kp.refl.app _, app_at, upd_eq, upd_ne (by decide) (upd_ne (by decide) q3), upd_ne (by decide) (upd_ne (by decide) q4), upd_ne (by decide) upd_eq⟩)
  · obtain ⟨_, _, H6, _, _, rfl, hK, _⟩ := h; exact hK.at hn6
  rotate_left
  · obtain ⟨t, hi, H6, l, htl, rfl, hK, hhi, p1, p2, p3, p4⟩ := h
    refine ⟨_, As.name rfl (by decide), ?_⟩
    dsimp only
    refine' XS.assignCV (XV.compL (i := ni) (vs := (rsd.map (·.1)).map .str) (st1 := ⟨H6, upd l "_" v⟩) ?h1 (hK.at hn6) ⟨by decide, by decide, by decide, rfl, by decide, rfl, by decide, by decide⟩ (by simp; exact Nat.le_trans (by assumption) (by decide))
      (XR.run (LH4 H6 rsd t) (fun vs Hc acc h => ?h2) (fun Hc acc h => ?h3) (fun v vs Hc acc h => ?h4) _ _ _ ⟨[], rsd, rfl, rfl, rfl, Kp.refl.app _, app_at⟩)) rfl (by decide) (by decide) ?h5
    case h1 => walk_at "ev"
    case h2 => obtain ⟨_, _, _, _, _, hK', _⟩ := h; exact hK'.at (hK.at hn6)
    case h5 =>
      intro env hE
      show (pure (env.blockKind == .function && env.kindOf _ == some .local && _ && _) : Sem Bool) = pure false
      rw [hE.kindOf, show env.blockKind = .function by unfold Env.blockKind; rw [hE.k]; rfl]
      rfl
    case h3 =>
      dsimp only at h ⊢
      obtain ⟨r1, r2, hrr, hvs, rfl, hK', hD⟩ := h
      obtain rfl := nil_mapp hvs
      rw [List.append_nil] at hrr
      subst hrr
      refine XS.nil ?_
      dsimp only [Turn]
      simp only [List.length_cons] at htl
      exact ⟨t + 1, H6.length, Hc, _, by omega, rfl, hK.trans hK', hD, upd_eq, upd_ne (by decide) (upd_ne (by decide) p2), upd_ne (by decide) (upd_ne (by decide) p3), upd_ne (by decide) (upd_ne (by decide) p4)⟩
    case h4 =>
      dsimp only at h ⊢
      obtain ⟨r1, r2, hrr, hvs, rfl, hK', hD⟩ := h
      replace hvs := cons_mapp hvs
      obtain ⟨r, r2, rfl, rfl, rfl⟩ := hvs
      have hrm : r ∈ rsd := by rw [← hrr]; simp
      obtain ⟨vx, hvx, hvE⟩ := hT5.some (hge r hrm)
      have hKc := hK.trans hK'
      have hrc := hKc.at hr5
      have hsz1 := hsz r hrm
      obtain ⟨rv, H7, hc7, rfl, hK7⟩ := hollow_spec (w := w) (hs := stepN rsd t) G 2 r.2 vx Hc (hK'.at hhi) (hlow _ _ (hge r hrm)) (by exact Nat.le_trans (by assumption) (by decide)) (hvE.kp hKc Wr.nil)
      have hc7' := hc7.mono (show 3 ≤ 13 by decide)
      have hD7 := hK7.at hD
      cases hb : mbe (fun x => strIn x (stepN rsd t)) r.2 with
      | true =>
        rw [hb] at hc7'
        refine .inl ⟨H7, H7, .str r.1, Tst.one (Tr.valb ?g1), Ev.loc rfl (by dsimp only; exact upd_eq) rfl, hD7, r1 ++ [r], r2, by rw [← hrr]; simp, rfl, ?g2, (hK'.trans hK7).set (.inr (Nat.le_refl _)), ?g3⟩
        case g2 => simp [List.filter_append, List.filter, hb]
        case g3 => exact set_at hD7
        case g1 =>
          refine Ev.callH (H := Hc) (by walk_at "ev") (callForm_K G (by k_is)) (EvL.cons (Ev.subD (st2 := ⟨Hc, _⟩) (by exact Ev.cell rfl (by decide) (by dsimp only; exact upd_ne (by decide) (compBase_get (by decide) (upd_ne (by decide) p3))) rfl) (by exact Ev.loc rfl (by dsimp only; exact upd_eq) rfl) hrc hvx hs_n) (EvL.cons (by exact Ev.cell rfl (by decide) (by dsimp only; exact upd_ne (by decide) (compBase_get (by decide) (upd_ne (by decide) p1))) rfl) EvL.nil)) hc7' (by intro _ _; rfl)
      | false =>
        rw [hb] at hc7'
        refine .inr ⟨H7, Tst.one (Tr.valb ?j1), hD7, r1 ++ [r], r2, by rw [← hrr]; simp, rfl, ?j2, hK'.trans hK7, hD7⟩
        case j2 => simp [List.filter_append, List.filter, hb]
        case j1 =>
          refine Ev.callH (H := Hc) (by walk_at "ev") (callForm_K G (by k_is)) (EvL.cons (Ev.subD (st2 := ⟨Hc, _⟩) (by exact Ev.cell rfl (by decide) (by dsimp only; exact upd_ne (by decide) (compBase_get (by decide) (upd_ne (by decide) p3))) rfl) (by exact Ev.loc rfl (by dsimp only; exact upd_eq) rfl) hrc hvx hs_n) (EvL.cons (by exact Ev.cell rfl (by decide) (by dsimp only; exact upd_ne (by decide) (compBase_get (by decide) (upd_ne (by decide) p1))) rfl) EvL.nil)) hc7' (by intro _ _; rfl)
  obtain ⟨t, hi, H6, l6, htl, rfl, hK6, hhi, p1, p2, p3, p4⟩ := h
  have htn : t = rsd.length := by simpa using htl
  subst htn
  have hG6 := hGr.kp hK6
  have hT6 := hT5.kp hK6 Wr.nil
  have hr6 := hK6.at hr5
  have hn7 := hK6.at hn6
  have hNeq : (fun x => strIn x (stepN rsd rsd.length)) = hasK em := funext fun x => hollow_eq hnd hGr.lst x
  generalize hhs : stepN rsd rsd.length = hs at *
  clear hK6 hGr hT5 hr5 hn6 q3 q4 htl
  have hNx : ∀ r ∈ rsd, mbe (hasK em) r.2 = strIn r.1 hs := fun r hr => by
    rw [hG6.lst.eq (hge r hr)]; exact (congrFun hNeq r.1).symm
  -- steps
  refine XS.assign Ev.dict0 rfl (by decide) ?_
  dsimp only
  refine XS.forL (i := ni) (vs := (rsd.map (·.1)).map .str) (by walk_at "ev") (app_lt hn7) (XL.run (LH5 H6 rsd em ps hi ni ri gi)
    (fun vs st h => ?_) (fun st h => ?_) (fun v vs st h => ?_) _ _ ⟨[], rsd, [], _, _, rfl, rfl, rfl, Kp.refl.app _, app_at, TokD.nil, by simp, upd_eq, upd_ne (by decide) p1, upd_ne (by decide) p2, upd_ne (by decide) p3, upd_ne (by decide) p4⟩)
  · obtain ⟨_, _, _, H7, _, _, _, rfl, hK, _⟩ := h; exact hK.at hn7
  rotate_left
  · obtain ⟨r1, r2, sd, H7, l, hrr, hvs, rfl, hK, hD, hTk, hst, s0, s1, s2, s3, s4⟩ := h
    replace hvs := cons_mapp hvs
    obtain ⟨r, r2, rfl, rfl, rfl⟩ := hvs
    have hrm : r ∈ rsd := by rw [← hrr]; simp
    have hrm1 : r.1 ∈ rsd.map (·.1) := List.mem_map.mpr ⟨r, hrm, rfl⟩
    have hsz1 := hsz r hrm
    obtain ⟨vx, hvx, hvE⟩ := hT6.some (hge r hrm)
    have hr7 := hK.at hr6
    refine ⟨_, As.name rfl (by decide), ?_⟩
    dsimp only
    obtain ⟨rv, H8, hc8, f, rfl, hf8, hK8⟩ := heads_spec (w := w) (ps := ps) (hs := hs) G 2 r.2 vx H7 hr7 (hK.at hhi) (hlow _ _ (hge r hrm)) (by exact Nat.le_trans (by assumption) (by decide)) (hvE.kp hK Wr.nil)
    have hc8' := hc8.mono (show 4 ≤ 13 by decide)
    rw [hNeq] at hf8
    have hD8 := hK8.at hD
    have hsl := hTk.len
    have hfn : f ≠ H6.length := by rintro rfl; rw [hD8] at hf8; cases hf8
    refine XS.next (Ex.setItem (v1 := .ref f) (v3 := .str r.1) (Ev.callH (H := H7) (by walk_at "ev") (callForm_K G (by k_is)) (EvL.cons (Ev.subD (st2 := ⟨H7, _⟩) (by walk_at "ev") (by walk_at "ev") hr7 hvx hs_n) (by walk_at "evl")) hc8' (by intro _ _; rfl)) (by walk_at "ev") (by walk_at "ev") (op_setD hD8 (by simp at hsl; exact om8' (by assumption) (by assumption) (by decide)))) ?_
    dsimp only
    have hK9 : Kp [] H6 (H8.set H6.length (.dict (aput sd r.1 (.ref f)))) := (hK.trans hK8).set (.inr (Nat.le_refl _))
    have hD9 : (H8.set H6.length (.dict (aput sd r.1 (.ref f))))[H6.length]? = some (.dict (aput sd r.1 (.ref f))) := set_at hD8
    have hst9 : ∀ q ∈ r1 ++ [r], ∃ f', aget (aput sd r.1 (.ref f)) q.1 = some (.ref f') ∧ (H8.set H6.length (.dict (aput sd r.1 (.ref f))))[f']? = some (.list (((fr (hasK em) q.2).filter (hasK ps)).map .str)) := fun q hq => by
      rcases List.mem_append.mp hq with h | h
      · obtain ⟨f', g1, g2⟩ := hst q h
        have hne : q.1 ≠ r.1 := by
          intro e
          rw [← hrr, List.map_append, List.nodup_append] at hnd
          exact hnd.2.2 q.1 (List.mem_map.mpr ⟨q, h, rfl⟩) r.1 (by simp) e
        refine ⟨f', by rw [aget_aput, if_neg hne]; exact g1, set_ne (fun e => ?_) (hK8.at g2)⟩
        rw [← e, hD] at g2; cases g2
      · rw [List.mem_singleton.mp h]
        exact ⟨f, by rw [aget_aput, if_pos rfl], set_ne (Ne.symm hfn) hf8⟩
    generalize H8.set H6.length (.dict (aput sd r.1 (.ref f))) = H9 at *
    have hr9 := hK9.at hr6
    have hh9 := hK9.at hhi
    have hg9 := hG6.kp hK9
    have g0 := hg9.inst
    have g1 := hg9.ns
    have hcn := ((nullable_spec (w := w) G g0 g1 hg9.atab hg9.aemp hg9.emp (hlow _ _ (hge r hrm)) (hvE.kp hK9 Wr.nil)).get).mono (show 4 ≤ 13 by decide)
    have hn1 := hg9.n1
    refine XS.skip (st1 := ⟨H9, upd l "name" (.str r.1)⟩) (Tr.cmp0 (Ev.meth (H' := H9) (st2 := ⟨H9, _⟩) G PC (by walk_at "ev") g0 g1 (by k_is) (by k_is) (by k_is) hn1 (EvL.cons (Ev.subD (st2 := ⟨H9, _⟩) (by walk_at "ev") (by walk_at "ev") hr9 hvx hs_n) EvL.nil) hcn (by intro _ _; rfl) (fun _ => rfl)) (Ev.cmp0 (by walk_at "ev") (by walk_at "ev") (op_inLs hh9) hm_name) (op_neb' (by rw [hNx r hrm]; simp)) hm_ne) ?_
    refine XS.nil ?_
    dsimp only [Turn]
    exact ⟨r1 ++ [r], r2, _, H9, _, by rw [← hrr]; simp, rfl, rfl, hK9, hD9, hTk.put hrm1, hst9, upd_ne (by decide) s0, upd_ne (by decide) s1, upd_ne (by decide) s2, upd_ne (by decide) s3, upd_ne (by decide) s4⟩
  obtain ⟨r1, r2, sd, H7, l7, hrr, hvs, rfl, hK, hD, hTk, hst, s0, s1, s2, s3, s4⟩ := h
  obtain rfl := nil_mapp hvs
  rw [List.append_nil] at hrr
  subst hrr
  have hG7 := hG6.kp hK
  have hn8 := hK.at hn7
  generalize H6.length = si at *
  have hpk : ∀ x, hasK ps x = true ↔ x ∈ r1.map (·.1) := fun x => by
    unfold hasK; rw [has_iff, hT6.keys]
  clear hG6 hT6 hr6 hn7 hhi hK hvs p1 p2 p3 p4
  exact XS.nil ⟨rfl, H7, l7, r1, ps, em, kvs, ps5, sd, gi, di, ti, mi, ni, si, rfl, ⟨hnd, hsm, hlow, hsz, hpk, hG7, hn8, hD, hst, s0, s2, s4⟩⟩
end

section
variable {w : World} {b₀ : Heap} {n : Nat} {P : Params} {H : List AObj}

inductive LT1 (H7 : List AObj) (r1 : List (Str × E)) (si ni gi : Nat) (vs : List AVal) (st : ASt) : Prop
  | mk : ∀ (q1 q2 : List (Str × E)) (H8 : List AObj) (l : Str → Option AVal), q1 ++ q2 = r1 → vs = (q2.map (·.1)).map AVal.str → st = ⟨H8, l⟩ → Kp [] H7 H8 → l "steps_of" = some (.ref si) → l "rule_names" = some (.ref ni) → l "made" = some (.ref gi) → LT1 H7 r1 si ni gi vs st
inductive LT2 (H8 : List AObj) (r1 : List (Str × E)) (N : Str → Bool) (a : Str) (si ni gi m : Nat) (st : ASt) : Prop
  | mk : ∀ (met ah : List Str) (H9 : List AObj) (l : Str → Option AVal), st = ⟨H9, l⟩ → Kp [] H8 H9 → H9[H8.length]? = some (.list (met.map .str)) → H9[H8.length + 1]? = some (.list (ah.map .str)) → WL r1 N a met ah m → l "met" = some (.ref H8.length) → l "ahead" = some (.ref (H8.length + 1)) → l "name" = some (.str a) →
        l "steps_of" = some (.ref si) → l "rule_names" = some (.ref ni) → l "made" = some (.ref gi) → LT2 H8 r1 N a si ni gi m st
theorem law_tail {name qual : Str} {params : Arguments} {body : List Stmt} {scope : Scope} {dV kV doc pm cdv ct oc : Value} {an od : Option Addr} {osl : Array (Option Value)} (G : Glo (hd.heap_39 P) b₀) {st : ASt}
    (ho : (hd.heap_39 P).lookup 162 = some ⟨oc, od, .func (fnOf name qual params body scope dV kV doc pm an cdv ct), osl⟩) (hS : LMid .next st) :
    XS w b₀ 13 ⟨scope, cellNames scope⟩ (body.drop 10) st (fun f _ => f = .ret (.bool true)) := by
  refine body_of (Pd := fun body scope => XS w b₀ 13 ⟨scope, cellNames scope⟩ (body.drop 10) st (fun f _ => f = .ret (.bool true))) (by k_is) ho ?_
  dsimp only [List.drop]
  obtain ⟨_, H7, l7, r1, ps, em, kvs, ps5, sd, gi, di, ti, mi, ni, si, rfl, ⟨hnd, hsm, hlow, hsz, hpk, hG7, hn8, hD, hst, s0, s2, s4⟩⟩ := hS
  clear ho
  obtain ⟨cd, PC⟩ := gcls P
  have hge : ∀ r ∈ r1, eget r1 r.1 = some r.2 := fun r hr => eget_of_mem hnd hr
  have hub := uns_bound (s := fun x => strIn x []) (rs := r1) hsz
  have hub2 : (13 + 1) * r1.length ≤ 56 := by omega
  refine XS.forL (i := ni) (vs := (r1.map (·.1)).map .str) (by walk_at "ev") hn8 (XL.run (LT1 H7 r1 si ni gi)
    (fun vs st h => ?_) (fun st h => ?_) (fun v vs st h => ?_) _ _ ⟨[], r1, _, _, rfl, rfl, rfl, Kp.refl, s0, s2, s4⟩)
  · obtain ⟨_, _, H8, _, _, _, rfl, hK, _⟩ := h; exact hK.at hn8
  · obtain ⟨_, _, H8, l, _, _, rfl, _⟩ := h
    exact XS.ret (v := .bool true) (by walk_at "ev") rfl
  · obtain ⟨q1, q2, H8, l, hrr, hvs, rfl, hK, t0, t2, t4⟩ := h
    replace hvs := cons_mapp hvs
    obtain ⟨r, q2, rfl, rfl, rfl⟩ := hvs
    have hrm : r ∈ r1 := by rw [← hrr]; simp
    have hrm1 : r.1 ∈ r1.map (·.1) := List.mem_map.mpr ⟨r, hrm, rfl⟩
    have hsz1 := hsz r hrm
    refine ⟨_, As.name rfl (by decide), ?_⟩
    dsimp only
    refine XS.assign (Ev.list EvL.nil (by simp)) rfl (by decide) ?_
    dsimp only
    obtain ⟨f, hf1, hf2⟩ := hst r hrm
    have hKa : Kp [] H7 (H8 ++ [.list []]) := hK.app _
    have hDa := hKa.at hD
    have hfa := hKa.at hf2
    have hfl : ((fr (hasK em) r.2).filter (hasK ps)).length ≤ 13 := Nat.le_trans (List.length_filter_le _ _) (Nat.le_trans (fr_len _) hsz1)
    have hcl := call_listL (n := 13) (w := w) (b₀ := b₀) hfa (by simp; exact Nat.le_trans (by assumption) (by decide))
    refine XS.assign (v := .ref (H8 ++ [AObj.list []]).length) (st1 := ⟨H8 ++ [.list []] ++ [.list (((fr (hasK em) r.2).filter (hasK ps)).map AVal.str)], upd (upd l "name" (.str r.1)) "met" (.ref H8.length)⟩) (Ev.callH (H := H8 ++ [.list []]) (by walk_at "ev") callForm_T (EvL.cons (Ev.subD (st2 := ⟨H8 ++ [.list []], _⟩) (by walk_at "ev") (by walk_at "ev") hDa hf1 hs_n) EvL.nil) hcl (by intro _ _; rfl)) rfl (by decide) ?_
    dsimp only
    have hAl : (H8 ++ [AObj.list []]).length = H8.length + 1 := by simp
    rw [hAl]
    have hM0 : (H8 ++ [AObj.list []] ++ [.list (((fr (hasK em) r.2).filter (hasK ps)).map AVal.str)])[H8.length]? = some (.list (([] : List Str).map .str)) := app_lt app_at
    have hA0 : (H8 ++ [AObj.list []] ++ [.list (((fr (hasK em) r.2).filter (hasK ps)).map AVal.str)])[H8.length + 1]? = some (.list (((fr (hasK em) r.2).filter (hasK ps)).map .str)) := by rw [← hAl]; exact app_at
    have hK0 : Kp [] H8 (H8 ++ [AObj.list []] ++ [.list (((fr (hasK em) r.2).filter (hasK ps)).map AVal.str)]) := (Kp.refl.app _).app _
    generalize H8 ++ [AObj.list []] ++ [.list (((fr (hasK em) r.2).filter (hasK ps)).map AVal.str)] = H9 at *
    obtain ⟨m0, hW0⟩ := WL.init (N := hasK em) hpk (hge r hrm) (by exact Nat.le_trans (by assumption) (by decide)) (by exact om8' (by assumption) (by assumption) (by decide))
    refine XS.while_ (LT2 H8 r1 (hasK em) r.1 si ni gi)
      (fun m st h => ?_) m0 ⟨[], _, H9, _, rfl, hK0, hM0, hA0, hW0, upd_ne (by decide) upd_eq, upd_eq, upd_ne (by decide) (upd_ne (by decide) upd_eq), upd_ne (by decide) (upd_ne (by decide) (upd_ne (by decide) t0)), upd_ne (by decide) (upd_ne (by decide) (upd_ne (by decide) t2)), upd_ne (by decide) (upd_ne (by decide) (upd_ne (by decide) t4))⟩
    clear hW0 hM0 hA0 hK0 hcl hDa hfa hKa
    obtain ⟨met, ah, H9, l9, rfl, hK9, hM, hA, hW, u1, u2, u3, u4, u5, u6⟩ := h
    have hM' := app_lt (l := [AObj.list []]) hM
    have hA' := app_lt (l := [AObj.list []]) hA
    have hE' : (H9 ++ [AObj.list []])[H9.length]? = some (.list []) := app_at
    have hK9' : Kp [] H8 (H9 ++ [AObj.list []]) := hK9.app _
    have hlA := hW.lenA
    have hlM := hW.lenM
    by_cases hemp : ah = []
    · subst hemp
      refine .inl ⟨⟨H9 ++ [.list []], l9⟩, Tr.cmp (st1 := ⟨H9, l9⟩) (st2 := ⟨H9 ++ [.list []], l9⟩) (Ev.loc rfl u2 rfl) (Ev.list (st1 := ⟨H9, l9⟩) EvL.nil (by simp)) (op_neNil' hA' hE' rfl) hm_ne, ?_⟩
      have hKn := hK.trans hK9'
      obtain ⟨rv, H10, hc10, b, rfl, hb, hK10⟩ := ilr_spec (w := w) (a := r.1) G (hG7.kp hKn) hnd hsm hlow (fun q hq => by have := hsz q hq; exact Nat.le_trans (by assumption) (by decide)) (hge r hrm)
      have hc10' := hc10.mono (show 5 ≤ 13 by decide)
      have hM10 := hK10.at hM'
      have hbe : b = strIn r.1 met := by rw [Bool.eq_iff_iff, hb, hW.done hrm1]
      refine XS.skip (st1 := ⟨H10, l9⟩) (Tr.cmp0 (Ev.callH (H := H9 ++ [.list []]) (by walk_at "ev") (callForm_K G (by k_is)) (by walk_at "evl") hc10' (by intro _ _; rfl)) (Ev.cmp0 (by walk_at "ev") (by walk_at "ev") (op_inLs hM10) hm_name) (op_neb' (by rw [hbe]; simp)) hm_ne) ?_
      refine XS.nil ?_
      dsimp only [Turn]
      exact ⟨q1 ++ [r], q2, H10, l9, by rw [← hrr]; simp, rfl, rfl, hKn.trans hK10, u4, u5, u6⟩
    · obtain ⟨ah', x, rfl⟩ : ∃ ah' x, ah = ah' ++ [x] := ⟨ah.dropLast, ah.getLast hemp, (List.dropLast_concat_getLast hemp).symm⟩
      refine .inr ⟨⟨H9 ++ [.list []], l9⟩, Tr.cmp (st1 := ⟨H9, l9⟩) (st2 := ⟨H9 ++ [.list []], l9⟩) (Ev.loc rfl u2 rfl) (Ev.list (st1 := ⟨H9, l9⟩) EvL.nil (by simp)) (op_neNil' hA' hE' (by simp)) hm_ne, ?_⟩
      rw [List.map_append] at hA'
      refine XS.assign (Ev.pop (v := .str x) (vs := ah'.map .str) (by walk_at "ev") hA' (by simp at hlA ⊢; exact Nat.le_trans (by assumption) (by decide)) (fun _ => rfl)) rfl (by decide) ?_
      dsimp only
      have hKb : Kp [] H8 ((H9 ++ [AObj.list []]).set (H8.length + 1) (.list (ah'.map .str))) := hK9'.set (.inr (by exact Nat.le_succ _))
      have hMb : ((H9 ++ [AObj.list []]).set (H8.length + 1) (.list (ah'.map .str)))[H8.length]? = some (.list (met.map .str)) := set_ne (by omega) hM'
      have hAb : ((H9 ++ [AObj.list []]).set (H8.length + 1) (.list (ah'.map .str)))[H8.length + 1]? = some (.list (ah'.map .str)) := set_at hA'
      generalize (H9 ++ [AObj.list []]).set (H8.length + 1) (.list (ah'.map .str)) = Hb at *
      have hlA' : ah'.length ≤ 1000 := by simp at hlA; exact Nat.le_trans (by assumption) (by decide)
      by_cases hx : x ∈ met
      · obtain ⟨m', hm', hW'⟩ := hW.skip hx
        refine XS.skip (Tr.cmp0 (by walk_at "ev") (by walk_at "ev") (op_ninLs' hMb (by rw [strIn_iff.mpr hx]; rfl)) hm_name) ?_
        exact XS.nil ⟨m', hm', met, ah', Hb, _, rfl, hKb, hMb, hAb, hW', upd_ne (by decide) u1, upd_ne (by decide) u2, upd_ne (by decide) u3, upd_ne (by decide) u4, upd_ne (by decide) u5, upd_ne (by decide) u6⟩
      · obtain ⟨ex, hex⟩ := eget_key.mpr (hW.memA x (by simp))
        have hxr : (x, ex) ∈ r1 := eget_mem hex
        obtain ⟨m', hm', hW'⟩ := hW.add hpk hx hex
        obtain ⟨fx, hfx1, hfx2⟩ := hst _ hxr
        refine XS.ifT (Tr.cmp0 (by walk_at "ev") (by walk_at "ev") (op_ninLs' (c := true) hMb (by
          cases h : strIn x met with
          | false => rfl
          | true => exact absurd (strIn_iff.mp h) hx)) hm_name) ?_
        refine' XS.expr (Ev.append (v := .str x) (st1 := ⟨Hb, upd l9 "one" (.str x)⟩) (st2 := ⟨Hb, upd l9 "one" (.str x)⟩) ?w1 hMb ?w2 hMb (by simp; exact om8' (by assumption) (by assumption) (by decide)) (fun _ => rfl)) ?w3
        case w1 => walk_at "ev"
        case w2 => walk_at "ev"
        dsimp only
        have hKc : Kp [] H8 (Hb.set H8.length (.list (met.map AVal.str ++ [.str x]))) := hKb.set (.inr (Nat.le_refl _))
        have hMc : (Hb.set H8.length (.list (met.map AVal.str ++ [.str x])))[H8.length]? = some (.list ((met ++ [x]).map .str)) := by rw [List.map_append]; exact set_at hMb
        have hAc : (Hb.set H8.length (.list (met.map AVal.str ++ [.str x])))[H8.length + 1]? = some (.list (ah'.map .str)) := set_ne (by omega) hAb
        generalize Hb.set H8.length (.list (met.map AVal.str ++ [.str x])) = Hc at *
        have hKn := hK.trans hKc
        have hDc := hKn.at hD
        have hfc := hKn.at hfx2
        have hfl2 : ((fr (hasK em) ex).filter (hasK ps)).length ≤ 13 := Nat.le_trans (List.length_filter_le _ _) (Nat.le_trans (fr_len _) (hsz _ hxr))
        refine XS.next (Ex.aug (v1 := .ref (H8.length + 1)) (v2 := .ref fx) (v := .ref (H8.length + 1)) (st1 := ⟨Hc, upd l9 "one" (.str x)⟩) (by walk_at "hyp") rfl (by decide) (Ev.subD (by walk_at "ev") (by walk_at "ev") hDc hfx1 hs_n) (op_iadd hAc hfc (by simp; exact Nat.le_trans (by assumption) (by decide)) (by simp; exact Nat.le_trans (by assumption) (by decide)))) ?_
        dsimp only
        refine XS.nil ⟨XS.nil ?_, by simp⟩
        refine ⟨m', hm', met ++ [x], ah' ++ (fr (hasK em) ex).filter (hasK ps), _, _, rfl, hKc.set (.inr (by exact Nat.le_succ _)), set_ne (by omega) hMc, ?_, hW', upd_ne (by decide) (upd_ne (by decide) u1), upd_eq, upd_ne (by decide) (upd_ne (by decide) u3), upd_ne (by decide) (upd_ne (by decide) u4), upd_ne (by decide) (upd_ne (by decide) u5), upd_ne (by decide) (upd_ne (by decide) u6)⟩
        rw [List.map_append]; exact set_at hAc
end

section
variable {w : World} {b₀ : Heap} {n : Nat} {P : Params} {H : List AObj}

theorem execs_app {b : List Stmt} {env : Env} : ∀ a : List Stmt, execs (a ++ b) env = (execs a env >>= fun f => match f with | .next => execs b env | f => pure f)
  | [] => by rw [List.nil_append]; rfl
  | t :: a => by
    rw [List.cons_append, execs_cons, execs_cons, bind_assoc]
    congr 1
    funext f
    cases f with
    | next => exact execs_app a
    | brk => rfl
    | cont => rfl
    | ret v => rfl
theorem XS.app {cx : Cx} {st : ASt} {ts1 ts2 : List Stmt} {Mid Post : AFlow → ASt → Prop} (h1 : XS w b₀ n cx ts1 st Mid) (h2 : ∀ f st', Mid f st' → f = .next ∧ XS w b₀ n cx ts2 st' Post) : XS w b₀ n cx (ts1 ++ ts2) st Post := by
  obtain ⟨f, st1, h3, h4⟩ := h1
  obtain ⟨rfl, f2, st2, h5, h6⟩ := h2 _ _ h4
  refine ⟨f2, st2, ?_, h6⟩
  intro A env E s ρ Q hR hE hB k
  rw [execs_app]
  refine wpAny_bind (h3 A env E s ρ _ hR hE hB fun s1 ρ1 u1 y1 hB1 hv1 => ?_)
  cases (hv1 : u1 = .next)
  exact h5 A env E s1 ρ1 _ hR hE hB1 fun s2 ρ2 u2 y2 hB2 hv2 => k _ _ _ (y1.trans y2) hB2 hv2

theorem law_body {l : Addr} {zs : List Int} {us : List Value} {name qual : Str} {params : Arguments} {body : List Stmt} {scope : Scope} {dV kV doc pm cdv ct oc : Value} {an od : Option Addr} {osl : Array (Option Value)} (G : Glo (hd.heap_39 P) b₀) (hl : b₀.IsList l (List.toArray us)) (hv : VRs [] (zs.map .int) us) (hz : zs.length ≤ 63)
    (ho : (hd.heap_39 P).lookup 162 = some ⟨oc, od, .func (fnOf name qual params body scope dV kV doc pm an cdv ct), osl⟩) :
    XS w b₀ 13 ⟨scope, cellNames scope⟩ body ⟨[], fun x => ((["script"] : List Str).zip [AVal.val (.ref l)]).lookup x⟩ (fun f _ => f = .ret (.bool true)) := by
  rw [← List.take_append_drop 10 body]
  refine XS.app (law_head G hl hv hz ho) fun f st' h => ?_
  have h1 : f = .next := h.1
  subst h1
  exact ⟨rfl, law_tail G ho h⟩
end

theorem vrs_ints : ∀ {us : List Value} {zs : List Int}, IntsAre us zs → VRs [] (zs.map .int) us := by
  intro us zs h
  induction h with
  | nil => trivial
  | cons n t _ ih => exact ⟨⟨_, rfl⟩, ih⟩

theorem nd3 (L : Nat) : ([L, L + 1 + 1, L + 1] : List Nat).Nodup := by
  rw [List.nodup_cons, List.nodup_cons]
  refine ⟨?_, ?_, by simp⟩
  · simp; omega
  · simp

theorem final_enter {w : World} {s₁ : Shared} {h₁ : Heap} {tk : Nat} {m : Str → Option Value} {name : Str} {scope : Scope} {fa l : Addr} {cd : Value} {body : List Stmt} {o1 o2 : Obj} {v1 v2 : Option Value} {Q : Flow → Shared → Prop} {E : Value → Shared → Prop}
    (F : Fr s₁.heap s₁.heap.objs.size h₁ m) (hm : m "script" = some (.ref l)) (hc : cellsFrom (s₁.heap.objs.size + 1) scope.names [] = ([("hollow_names", s₁.heap.objs.size + 1 + 1), ("rules_of", s₁.heap.objs.size + 1)] : List (Str × Addr)))
    (N : News s₁.heap s₁.heap.objs.size h₁ [(s₁.heap.objs.size + 1 + 1, o1), (s₁.heap.objs.size + 1, o2)]) (c1 : o1.data = .cell v1) (c2 : o2.data = .cell v2) (hk : scope.kind = .function)
    (hX : XS w s₁.heap 13 ⟨scope, cellNames scope⟩ body ⟨[], fun x => ((["script"] : List Str).zip [AVal.val (.ref l)]).lookup x⟩ (fun f _ => f = .ret (.bool true)))
    (hQ : ∀ s' : Shared, (∀ b o, s₁.heap.get? b = some o → s'.heap.get? b = some o) → s' = { s₁ with heap := s'.heap, toks := s'.toks } → Q (.ret (.bool true)) s') :
    wpAny (MO w) (callerA.deeper (envOfC name scope s₁.heap.objs.size fa cd)) (execs body (envOfC name scope s₁.heap.objs.size fa cd)) Q E { s₁ with heap := h₁, toks := tk } := by
  obtain ⟨f, st', hx, rfl⟩ := hX
  have hLlt : s₁.heap.objs.size < h₁.objs.size := by obtain ⟨o, _, _, ho, _⟩ := F.ns; exact Heap.lt_size ho
  have g1 := (N _ (.head _)).1
  have g2 := (N _ (.tail _ (.head _))).1
  have hS : Sim w s₁.heap [] [] h₁ := ⟨rfl, List.nodup_nil, fun i o h => by simp at h, fun a h => by simp at h, F.keep, Nat.le_of_lt hLlt⟩
  have hcs : (envOfC name scope s₁.heap.objs.size fa cd).cells = ([("hollow_names", s₁.heap.objs.size + 1 + 1), ("rules_of", s₁.heap.objs.size + 1)] : List (Str × Addr)) := hc
  have hE : EnvOK ⟨scope, cellNames scope⟩ (envOfC name scope s₁.heap.objs.size fa cd) := ⟨rfl, hk, rfl, rfl, cellsFrom_names _ _ _ _ _ rfl, rfl⟩
  have hown : ∀ a ∈ owns (envOfC name scope s₁.heap.objs.size fa cd), a = s₁.heap.objs.size ∨ a = s₁.heap.objs.size + 1 + 1 ∨ a = s₁.heap.objs.size + 1 := fun a ha => by
    unfold owns at ha
    rw [hcs, show (envOfC name scope s₁.heap.objs.size fa cd).locals = s₁.heap.objs.size from rfl] at ha
    simpa using ha
  have hB : Bel w s₁.heap (envOfC name scope s₁.heap.objs.size fa cd) ⟨[], fun x => ((["script"] : List Str).zip [AVal.val (.ref l)]).lookup x⟩ [] { s₁ with heap := h₁, toks := tk } := by
    refine ⟨hS, ⟨⟨m, F.ns, fun x v hx _ => ?_⟩, fun z c hz => ?_, fun a ha => ⟨by simp, ?_⟩, ?_, fun a ha => ?_⟩⟩
    · have hx' : ([("script", AVal.val (.ref l))] : List (Str × AVal)).lookup x = some v := hx
      rw [List.lookup_cons] at hx'
      cases hb : x == ("script" : Str) with
      | true =>
        rw [hb] at hx'
        cases hx'
        rw [beq_iff_eq.mp hb]
        exact ⟨_, hm, rfl⟩
      | false => rw [hb] at hx'; simp at hx'
    · rw [hcs] at hz
      have hz' := mem_of_lookup hz
      rcases List.mem_cons.mp hz' with e | hz'
      · obtain ⟨rfl, rfl⟩ := Prod.mk.inj e
        exact ⟨_, ⟨_, g1, c1⟩, fun v hv => by cases hv⟩
      · rw [List.mem_singleton] at hz'
        obtain ⟨rfl, rfl⟩ := Prod.mk.inj hz'
        exact ⟨_, ⟨_, g2, c2⟩, fun v hv => by cases hv⟩
    · rcases hown a ha with h | h | h
      · rw [h]; exact Nat.le_refl _
      · rw [h]; exact Nat.le_trans (Nat.le_succ _) (Nat.le_succ _)
      · rw [h]; exact Nat.le_succ _
    · show List.Nodup (_ :: List.map _ _)
      rw [hcs]
      exact nd3 s₁.heap.objs.size
    · rcases hown a ha with h | h | h
      · rw [h]; exact hLlt
      · rw [h]; exact Heap.lt_size g1
      · rw [h]; exact Heap.lt_size g2
  have hR : Room 13 (callerA.deeper (envOfC name scope s₁.heap.objs.size fa cd)) := by
    refine ⟨rfl, ?_, ?_⟩
    · rw [depth_deeper]; decide
    · rw [Around.deeper_units]; decide
  refine hx _ _ E _ [] _ hR hE hB fun s' ρ' fl y hB' hfl => ?_
  obtain ⟨u, rfl, hu⟩ := hfl
  cases (hu : u = .bool true)
  exact hQ s' hB'.sim.stat (by rw [y.same])

theorem foo : PySem.Challenge.rw_pq0746_01.Holds := hd (by
  k_go0
  (all_goals try k_fold)
  rename_i w s₀ s₁ mg mb G Y fa o pm doc ho hg KX X V GL T B TE TW a1 a2 M a3 a4 hcd zs hs hlay0 hL0 hr1 hl2 a5 a6 l us a7 hL ra w1 r0 hI hr hcz hct K0 hD h₁ tk₁ F a8 a9 hx1 hx2 N0 X0
  have G' : Glo (hd.heap_39 w.params) s₁.heap := by
    refine ⟨KX, ⟨_, T.g⟩, ⟨_, T.b, T.builtins⟩, T.nolimit, ?_⟩
    obtain ⟨_, _, _, hb, _⟩ := T.g
    exact Nat.lt_trans (show sysModules < mainGlobals by decide) (Heap.lt_size hb)
  have hzl : zs.length ≤ 63 := by omega
  refine final_enter (l := l) F rfl rfl N0 hx1 hx2 rfl (law_body G' hL (vrs_ints hI) hzl (by k_is)) fun s' h1 h2 => ?_
  refine ⟨.inl ⟨.bool true, .bool true, [], rfl, fun _ => rfl, ReadsW.bool _, ?_, fun _ => ⟨List.nodup_nil, by simp⟩⟩, h1, ?_, ?_⟩
  · wrow_post
  · rw [h2]
  · rw [h2]; exact hg)

end Mine
theorem PySem.Challenge.cw_pq0746_01_holds : PySem.Challenge.rw_pq0746_01.Holds := by
  exact Mine.foo
