import PyProof.Rows.All
import Wide.All
import OpenK.AllK
import Wide.FinOn
import KE.KEqSeq
import KE.KDictOf
import PyProof.AttrMissHeap
import PyProof.RangeFor
import PyProof.EnumMake
import PyProof.WalksMore
import PyProof.DictWalks
import PyProof.CompFree
import PyProof.SliceList
import PyProof.Rows.SeqSliceW
import PySem.Challenge.RW_nt0362_01
set_option Elab.async false
set_option linter.unusedVariables false
set_option genSizeOf false
set_option compiler.extract_closed false
open PySem PySem.W PyProof.Rows PySem.Calls
open scoped Classical
namespace NT
section
theorem pa1 {n : Nat} : 0 ≤ (n : Int) := Int.natCast_nonneg n
theorem pa2 {a b : Int} : a + 1 + b = a + b + 1 := Int.add_right_comm a 1 b
theorem pa3 {a b : Int} : a + (b + 1) = a + b + 1 := (Int.add_assoc a b 1).symm
theorem pa4 {a b : Nat} : a + 1 + b = a + b + 1 := Nat.add_right_comm a 1 b
theorem pa5 {a b : Nat} : a + 1 + b = a + (b + 1) := Nat.add_right_comm a 1 b
theorem pa6 {a : Int} : a < a + 1 := Int.lt_succ a
theorem pa7 {a : Nat} : a ≤ a + 1 := Nat.le_succ a
theorem pa8 {a b : Nat} : a + 1 + b + 1 = a + 2 + b := by omega
theorem pa9 {a b : Nat} : a + 1 + 2 + b = a + 1 + b + 2 := by omega
theorem pa10 {s : Int} {a : Nat} : s + ((a + 1 : Nat) : Int) = s + 1 + (a : Int) := by omega
theorem pa11 {b : Nat} : 0 + 2 + b = b + 2 := by omega
theorem pa12 {a b : Nat} : a < a + (b + 1) := by omega
theorem pb1 {a b m : Nat} (h : a < m := by assumption) : a - b < m := Nat.lt_of_le_of_lt (Nat.sub_le _ _) h
theorem pb2 {a b c : Nat} (h : a + (b + 1) ≤ c := by assumption) : a + 1 + b ≤ c := by omega
theorem pb3 {a b c : Nat} (h : a + (b + 1) ≤ c := by assumption) : a + b ≤ c := by omega
theorem pb4 {a b c : Nat} (h : a + (b + 1) ≤ c := by assumption) : a + 1 ≤ c := by omega
theorem pb5 {a b : Nat} (h : a ≤ b := by assumption) : a + 1 ≤ b + 1 := Nat.succ_le_succ h
theorem pb6 {a b : Nat} (h : a + 1 < b := by assumption) : a < b := Nat.lt_of_succ_lt h
theorem pb7 {a b : Nat} (h : ¬ a < b := by assumption) : b ≤ a := Nat.le_of_not_lt h
theorem pb8 {a b : Int} (h : ¬ a < b := by assumption) : b ≤ a := Int.not_lt.mp h
theorem pb9 {a b : Int} (h : ¬ a ≤ b := by assumption) : b < a := Int.not_le.mp h
theorem pb10 {a : Int} (h : 0 ≤ a := by assumption) : 0 < a + 1 := by omega
theorem pb11 {a b : Int} (h : a ≤ b := by assumption) : a ≤ b + 1 := by omega
theorem pb12 {a b : Nat} (h : a < b := by assumption) : a ≠ b := Nat.ne_of_lt h
theorem pb13 {a : Nat} (h : 0 < a := by assumption) : a = a - 1 + 1 := by omega
theorem pb14 {a b : Int} (h : a = b := by assumption) : a ≤ b := Int.le_of_eq h
theorem pb15 {a : Int} (h : 0 ≤ a := by assumption) : a = (a.toNat : Int) := (Int.toNat_of_nonneg h).symm
theorem pb16 {a b : Nat} (h : (a : Int) < (b : Int) := by assumption) : a < b := Int.ofNat_lt.mp h
theorem pb17 {f : Int} (h : ¬ f % 2 = 0 := by assumption) : f % 2 = 1 := by omega
theorem pb18 {m : Nat} (h : 0 < m := by assumption) : (m : Int) - 1 = ((m - 1 : Nat) : Int) := by omega
theorem pb19 {a b c : Nat} (h : a + 1 ≤ c := by assumption) (e : Nat.ble c b = true := by rfl) : a + 1 ≤ b := Nat.le_trans h (Nat.le_of_ble_eq_true e)
theorem pc1 {a b d : Nat} (h : a ≤ b := by assumption) (e : Nat.ble b d = true := by rfl) : a ≤ d := Nat.le_trans h (Nat.le_of_ble_eq_true e)
theorem pc2 {a b d : Nat} (h : a < b := by assumption) (e : Nat.ble b d = true := by rfl) : a < d := Nat.le_trans h (Nat.le_of_ble_eq_true e)
theorem pc3 {a b d : Nat} (h : a < b := by assumption) (e : Nat.ble b d = true := by rfl) : a ≤ d := Nat.le_of_lt (pc2 h e)
theorem pc4 {a b d : Nat} (h : a < b := by assumption) (e : Nat.ble b d = true := by rfl) : a ≠ d := Nat.ne_of_lt (pc2 h e)
theorem pc5 {a b d : Nat} (h : b ≤ a := by assumption) (e : Nat.blt d b = true := by rfl) : a ≠ d := Nat.ne_of_gt (Nat.lt_of_lt_of_le (Nat.le_of_ble_eq_true e) h)
theorem pc6 {a b d : Nat} (h : b ≤ a := by assumption) (e : Nat.blt d b = true := by rfl) : d ≠ a := (pc5 h e).symm
theorem pc7 {a b d : Nat} (h : b ≤ a := by assumption) (e : Nat.ble d b = true := by rfl) : d ≤ a := Nat.le_trans (Nat.le_of_ble_eq_true e) h
theorem pc8 {a b d : Nat} (h : a ≤ b := by assumption) (e : Nat.ble b d = true := by rfl) : 0 + a ≤ d := (Nat.zero_add a).symm ▸ pc1 h e
theorem pc9 {a b c d : Nat} (h : a + b ≤ c := by assumption) (e : Nat.ble c d = true := by rfl) : a ≤ d := pc1 (Nat.le_trans (Nat.le_add_right _ _) h) e
theorem pc10 {a b : Nat} {d : Int} (h : a ≤ b := by assumption) (e : decide ((b : Int) < d) = true := by rfl) : (a : Int) < d := Int.lt_of_le_of_lt (Int.ofNat_le.mpr h) (of_decide_eq_true e)
theorem pc11 {a b : Nat} {d : Int} (h : a < b := by assumption) (e : decide ((b : Int) < d) = true := by rfl) : (a : Int) < d := pc10 (Nat.le_of_lt h) e
theorem pc12 {a b d : Int} (h : a < b := by assumption) (e : decide (b ≤ d) = true := by rfl) : a < d := Int.lt_of_lt_of_le h (of_decide_eq_true e)
theorem pc13 {a b d : Int} (h : a ≤ b := by assumption) (e : decide (b ≤ d) = true := by rfl) : a ≤ d := Int.le_trans h (of_decide_eq_true e)
theorem pc14 {a b d : Int} (h : b ≤ a := by assumption) (e : decide (d ≤ b) = true := by rfl) : d ≤ a := Int.le_trans (of_decide_eq_true e) h
theorem pc15 {a k d : Int} (h : 0 ≤ a := by assumption) (e : decide (d ≤ k) = true := by rfl) : d ≤ k + a := Int.le_trans (of_decide_eq_true e) (by omega)
theorem pc16 {a b d : Nat} (h : a + 1 ≤ b := by assumption) (e : Nat.ble b d = true := by rfl) : a ≤ d := Nat.le_of_lt (pc2 h e)
theorem pc17 {a b k d : Int} (h : a < b := by assumption) (e : decide (k + b ≤ d) = true := by rfl) : k + a < d := by have := of_decide_eq_true e; omega
theorem pc18 {a b : Int} {d : Nat} (h : a < b := by assumption) (e : decide (b ≤ (d : Int)) = true := by rfl) (z : Nat.blt 0 d = true := by rfl) : a.toNat < d := by have := of_decide_eq_true e; have := Nat.le_of_ble_eq_true z; omega
theorem pd1 {a b c : Nat} (h : a < b := by assumption) (k : b ≤ c := by assumption) : a < c := Nat.lt_of_lt_of_le h k
theorem pd2 {a b c d : Nat} (h : a < b := by assumption) (k : b ≤ c := by assumption) (e : Nat.ble c d = true := by rfl) : a < d := pc2 (pd1 h k) e
theorem pd3 {a b c : Nat} {d : Int} (h : a < b := by assumption) (k : b ≤ c := by assumption) (e : decide ((c : Int) < d) = true := by rfl) : (a : Int) < d := pc11 (pd1 h k) e
theorem pd4 {a b b' c : Nat} (h : a < b := by assumption) (k : b' ≤ c := by assumption) (e : Nat.ble b b' = true := by rfl) : a ≠ c := Nat.ne_of_lt (Nat.lt_of_lt_of_le (pc2 h e) k)
theorem pd5 {a b b' c : Nat} (h : a < b := by assumption) (k : b' ≤ c := by assumption) (e : Nat.ble b b' = true := by rfl) : c ≠ a := (pd4 h k e).symm
theorem pd6 {a : Nat} {b c : Int} {d : Nat} (h : (a : Int) ≤ b := by assumption) (k : b ≤ c := by assumption) (e : decide (c ≤ (d : Int)) = true := by rfl) : a ≤ d := Int.ofNat_le.mp (Int.le_trans h (pc13 k e))
theorem pd7 {a : Nat} {b c : Int} {d : Nat} (h : (a : Int) ≤ b := by assumption) (k : b ≤ c := by assumption) (e : decide (c ≤ (d : Int)) = true := by rfl) : 0 + a ≤ d := (Nat.zero_add a).symm ▸ pd6 h k e
theorem pd8 {a b c d : Nat} (h : a ≤ b := by assumption) (k : b ≤ c := by assumption) (e : Nat.ble c d = true := by rfl) : a ≤ d := pc1 (Nat.le_trans h k) e
theorem pd9 {a b c d : Nat} (h : a < b := by assumption) (k : b ≤ c := by assumption) (e : Nat.ble c d = true := by rfl) : a ≤ d := Nat.le_of_lt (pd2 h k e)
theorem runs_grow {M : Model} {Γ : Ctx} {p : Pos} {t : Sem Fin} {fs : List Frame} {s : Shared} {e : End} {s' : Shared} (h : Runs M Γ p t fs s e s') : s.heap.objs.size ≤ s'.heap.objs.size := by
  induction h with
  | done => exact Nat.le_refl _
  | raise => exact Nat.le_refl _
  | yield => exact Nat.le_refl _
  | update _ _ ih => rw [Heap.size_after_update] at ih; exact ih
  | alloc _ ih => rw [Heap.size_push] at ih; exact Nat.le_of_succ_le ih
  | call _ _ a b => exact Nat.le_trans a b
  | resumeFresh _ _ _ _ a b => exact Nat.le_trans a b
  | resumeSuspended _ _ _ _ a b => exact Nat.le_trans a b
  | segRet _ _ a b => exact Nat.le_trans a b
  | segGen _ _ a b => exact Nat.le_trans a b
  | segSuspGen _ _ _ _ a b => exact Nat.le_trans a b
  | _ => assumption
theorem wakes_grow {M : Model} {Γ : Ctx} {p : Pos} {g : Nat} {r : Resume} {s : Shared} {res : GenResult} {s' : Shared} (h : Wakes M Γ p g r s res s') : s.heap.objs.size ≤ s'.heap.objs.size := by
  unfold Wakes at h
  split at h
  · exact h.elim
  · split at h
    · obtain ⟨_, _, h, _, _, rfl⟩ := h; have := runs_grow h; exact this
    · obtain ⟨_, rfl⟩ := h; exact Nat.le_refl _
    · obtain ⟨_, rfl⟩ := h; exact Nat.le_refl _
  · obtain ⟨_, _, h, _, _, rfl⟩ := h; have := runs_grow h; exact this
  · obtain ⟨_, rfl⟩ := h; exact Nat.le_refl _
  · obtain ⟨_, rfl⟩ := h; exact Nat.le_refl _
theorem wp_grow {α : Type} {M : Model} {Γ : Ctx} (n : Nat) : ∀ (t : Sem α) (Q : α → Pos → Shared → Prop) (E : Value → Pos → Shared → Prop) (p : Pos) (s : Shared), n ≤ s.heap.objs.size → Sem.wp M Γ t Q E p s →
    Sem.wp M Γ t (fun a p s' => Q a p s' ∧ n ≤ s'.heap.objs.size) E p s := by
  intro t
  induction t with
  | pure a => intro Q E p s hn h; exact ⟨h, hn⟩
  | raise a => intro Q E p s hn h; exact h
  | load a _ k ih => intro Q E p s hn h; obtain ⟨o, ho, h⟩ := h; exact ⟨o, ho, ih _ _ _ _ _ hn h⟩
  | update a _ f k ih => intro Q E p s hn h; exact ⟨h.1, ih _ _ _ _ _ (by rw [Heap.size_after_update]; exact hn) h.2⟩
  | alloc o k ih => intro Q E p s hn h; exact ih _ _ _ _ { s with heap := s.heap.push o } (by show _ ≤ (s.heap.push o).objs.size; rw [Heap.size_push]; exact Nat.le_succ_of_le hn) h
  | choose src n k ih => intro Q E p s hn h; exact ⟨h.1, ih _ _ _ _ _ hn h.2⟩
  | call c h _ _ k ih =>
    intro Q E p s hn h'
    obtain ⟨r, s', hr, h'⟩ := h'
    exact ⟨r, s', hr, ih _ _ _ _ _ (Nat.le_trans hn (runs_grow hr)) h'⟩
  | genState g k ih => intro Q E p s hn h; obtain ⟨st, hs, h⟩ := h; exact ⟨st, hs, ih _ _ _ _ _ hn h⟩
  | resume g r _ k ih =>
    intro Q E p s hn h
    obtain ⟨r, s', hr, h⟩ := h
    exact ⟨r, s', hr, ih _ _ _ _ _ (Nat.le_trans hn (wakes_grow hr)) h⟩
  | rule _ k ih => intro Q E p s hn h; exact ih _ _ _ _ _ hn h
  | «at» _ k ih => intro Q E p s hn h; exact ih _ _ _ _ _ hn h
  | loadIfAlive _ k ih => intro Q E p s hn h; exact ih _ _ _ _ _ hn h
  | point _ k ih => intro Q E p s hn h; exact ih _ _ _ _ _ hn h
  | fresh k ih => intro Q E p s hn h; exact ih _ _ _ _ { s with toks := s.toks + 1 } hn h
  | ask k ih => intro Q E p s hn h; exact ih _ _ _ _ _ hn h
  | os q _ k ih => intro Q E p s hn h; exact ih _ _ _ _ _ hn h
  | handled _ k ih => intro Q E p s hn h; exact ih _ _ _ _ _ hn h
  | newGen c k ih => intro Q E p s hn h; exact ih _ _ _ _ _ hn h
  | stack k ih => intro Q E p s hn h; exact ih _ _ _ _ _ hn h
  | thread k ih => intro Q E p s hn h; exact ih _ _ _ _ _ hn h
  | _ => intro Q E p s hn h; exact h.elim
theorem wpAny_grow {α : Type} {M : Model} {A : Around} {t : Sem α} {Q : α → Shared → Prop} {E : Value → Shared → Prop} {s : Shared} (h : wpAny M A t Q E s) : wpAny M A t (fun a s' => Q a s' ∧ s.heap.objs.size ≤ s'.heap.objs.size) E s :=
  fun Γ p hΓ => wp_grow s.heap.objs.size t _ _ p s (Nat.le_refl _) (h Γ p hΓ)
end
section
set_option genInjectivity false in
inductive Kd where
  | inst (c : Nat) | idict | tup | lst (k : Nat) | dS (k : Nat) | dI (k : Nat) | dT (k : Nat)
inductive V where
  | none | bool (b : Bool) | int (i : Int) | str (s : Str) | p2 (a b : V) | p3 (a b c : V) | p4 (a b c d : V) | ref (k : Kd) (a : Addr) | ext (a : Addr)
noncomputable def V.isN (v : V) : Bool := v.casesOn true (fun _ => false) (fun _ => false) (fun _ => false) (fun _ _ => false) (fun _ _ _ => false) (fun _ _ _ _ => false) (fun _ _ => false) (fun _ => false)
def onI (v : V) (F : Int → Prop) : Prop := match v with | .int i => F i | _ => False
theorem onI_ex {v : V} {F : Int → Prop} (h : onI v F) : ∃ i, v = .int i ∧ F i := by cases v <;> first | exact h.elim | exact ⟨_, rfl, h⟩
def onS (v : V) (F : Str → Prop) : Prop := match v with | .str i => F i | _ => False
theorem onS_ex {v : V} {F : Str → Prop} (h : onS v F) : ∃ i, v = .str i ∧ F i := by cases v <;> first | exact h.elim | exact ⟨_, rfl, h⟩
def onR (v : V) (F : Kd → Addr → Prop) : Prop := match v with | .ref k a => F k a | _ => False
theorem onR_ex {v : V} {F : Kd → Addr → Prop} (h : onR v F) : ∃ k a, v = .ref k a ∧ F k a := by cases v <;> first | exact h.elim | exact ⟨_, _, rfl, h⟩
def onT (v : V) (F : Str → Int → Prop) : Prop := match v with | .p2 a b => onS a fun x => onI b fun i => F x i | _ => False
theorem onT_ex {v : V} {F : Str → Int → Prop} (h : onT v F) : ∃ x i, v = .p2 (.str x) (.int i) ∧ F x i := by
  cases v <;> first | exact h.elim | skip
  obtain ⟨x, rfl, h⟩ := onS_ex h; obtain ⟨i, rfl, h⟩ := onI_ex h; exact ⟨x, i, rfl, h⟩
structure H where
  fld : Nat → Addr → Nat → Option V
  lst : Nat → Addr → List V
  dS : Nat → Addr → List (Str × V) × Nat
  dI : Nat → Addr → List (Int × V)
  dT : Nat → Addr → List ((Str × Int) × V)
  nxt : Addr
noncomputable abbrev Km := Addr → Option Kd
def TupAt (κ : Km) (h : Heap) (x : Addr) (its : Array Value) : Prop := κ x = some .tup ∧ IsTup h x its
def VRel (κ : Km) (h : Heap) : V → Value → Prop
  | .none, v => v = .none
  | .bool b, v => v = .bool b
  | .int i, v => ∃ t, v = .int i t
  | .str s, v => ∃ t, v = .str s t
  | .p2 a b, v => ∃ x u1 u2, v = .ref x ∧ TupAt κ h x #[u1, u2] ∧ VRel κ h a u1 ∧ VRel κ h b u2
  | .p3 a b c, v => ∃ x u1 u2 u3, v = .ref x ∧ TupAt κ h x #[u1, u2, u3] ∧ VRel κ h a u1 ∧ VRel κ h b u2 ∧ VRel κ h c u3
  | .p4 a b c d, v => ∃ x u1 u2 u3 u4, v = .ref x ∧ TupAt κ h x #[u1, u2, u3, u4] ∧ VRel κ h a u1 ∧ VRel κ h b u2 ∧ VRel κ h c u3 ∧ VRel κ h d u4
  | .ref k a, v => v = .ref a ∧ κ a = some k
  | .ext a, v => v = .ref a
def VRels (κ : Km) (h : Heap) : List V → List Value → Prop
  | [], [] => True
  | a :: l, v :: vs => VRel κ h a v ∧ VRels κ h l vs
  | _, _ => False
def PRels {K : Type} (κ : Km) (h : Heap) : List (K × V) → List (K × Value) → Prop
  | [], [] => True
  | a :: l, v :: vs => a.1 = v.1 ∧ VRel κ h a.2 v.2 ∧ PRels κ h l vs
  | _, _ => False
def KeepA (h h' : Heap) : Prop := ∀ a its, IsTup h a its → IsTup h' a its
theorem KeepA.of {h h' : Heap} (k : ∀ a o, h.get? a = some o → h'.get? a = some o) : KeepA h h' := fun a _ ⟨o, ho, r⟩ => ⟨o, k a o ho, r⟩
theorem KeepA.but {h h' : Heap} {x : Addr} (k : Heap.ExtBut x h h') (n : ∀ its, ¬ IsTup h x its) : KeepA h h' := fun a its z => by
  by_cases e : a = x
  · subst e; exact absurd z (n its)
  · obtain ⟨o, ho, r⟩ := z; exact ⟨o, k a o e ho, r⟩
def KeepT (κ : Km) (h h' : Heap) : Prop := ∀ a its, κ a = some .tup → IsTup h a its → IsTup h' a its
theorem KeepT.refl {κ : Km} (h : Heap) : KeepT κ h h := fun _ _ _ x => x
theorem KeepT.trans {κ κ' : Km} {a b c : Heap} (x : KeepT κ a b) (hk : ∀ a k, κ a = some k → κ' a = some k) (y : KeepT κ' b c) : KeepT κ a c := fun p i e z => y p i (hk _ _ e) (x p i e z)
theorem KeepA.t {κ : Km} {h h' : Heap} (k : KeepA h h') : KeepT κ h h' := fun a its _ z => k a its z
theorem KeepT.of {κ : Km} {h h' : Heap} (k : ∀ a o, h.get? a = some o → h'.get? a = some o) : KeepT κ h h' := (KeepA.of k).t
theorem KeepT.but {κ : Km} {h h' : Heap} {x : Addr} (k : Heap.ExtBut x h h') (n : ∀ its, ¬ IsTup h x its) : KeepT κ h h' := (KeepA.but k n).t
theorem KeepT.non {κ : Km} {h h' : Heap} {x : Addr} (k : Heap.ExtBut x h h') (n : κ x ≠ some .tup) : KeepT κ h h' := fun a its q ⟨o, ho, r⟩ => ⟨o, k a o (fun e => n (e ▸ q)) ho, r⟩
theorem TupAt.mono {κ κ' : Km} {h h' : Heap} (hk : ∀ a k, κ a = some k → κ' a = some k) (ht : KeepT κ h h') {x : Addr} {its : Array Value} (t : TupAt κ h x its) : TupAt κ' h' x its := ⟨hk _ _ t.1, ht _ _ t.1 t.2⟩
theorem VRel.mono {κ κ' : Km} {h h' : Heap} (hk : ∀ a k, κ a = some k → κ' a = some k) (ht : KeepT κ h h') {v : V} {u : Value} (r : VRel κ h v u) : VRel κ' h' v u := by
  induction v generalizing u with
  | p2 a b ha hb => obtain ⟨x, u1, u2, e, t, p, q⟩ := r; exact ⟨x, u1, u2, e, t.mono hk ht, ha p, hb q⟩
  | p3 a b c ha hb hc => obtain ⟨x, u1, u2, u3, e, t, p, q, r⟩ := r; exact ⟨x, u1, u2, u3, e, t.mono hk ht, ha p, hb q, hc r⟩
  | p4 a b c d ha hb hc hd => obtain ⟨x, u1, u2, u3, u4, e, t, p, q, r, z⟩ := r; exact ⟨x, u1, u2, u3, u4, e, t.mono hk ht, ha p, hb q, hc r, hd z⟩
  | ref k a => exact ⟨r.1, hk a k r.2⟩
  | _ => exact r
section
variable {κ κ' : Km} {h h' : Heap}
theorem VRels.cons_ex {a : V} {l : List V} {us : List Value} (r : VRels κ h (a :: l) us) : ∃ u r, us = u :: r ∧ VRel κ h a u ∧ VRels κ h l r := by
  cases us with
  | nil => exact r.elim
  | cons u us => exact ⟨u, us, rfl, r⟩
theorem VRels.nil_eq {us : List Value} (r : VRels κ h [] us) : us = [] := by
  cases us with
  | nil => rfl
  | cons u us => exact r.elim
theorem PRels.cons_ex {K : Type} {a : K × V} {l : List (K × V)} {us : List (K × Value)} (r : PRels κ h (a :: l) us) : ∃ u r, us = (a.1, u) :: r ∧ VRel κ h a.2 u ∧ PRels κ h l r := by
  cases us with
  | nil => exact r.elim
  | cons u us => obtain ⟨_, u⟩ := u; obtain ⟨rfl, r⟩ := r; exact ⟨u, us, rfl, r⟩
theorem PRels.nil_eq {K : Type} {us : List (K × Value)} (r : PRels κ h [] us) : us = [] := by
  cases us with
  | nil => rfl
  | cons u us => exact r.elim
theorem VRels.mono (hk : ∀ a k, κ a = some k → κ' a = some k) (ht : KeepT κ h h') {v : List V} {u : List Value} (r : VRels κ h v u) : VRels κ' h' v u := by
  induction v generalizing u with
  | nil => cases r.nil_eq; trivial
  | cons a l ih => obtain ⟨_, _, rfl, r1, r2⟩ := r.cons_ex; exact ⟨r1.mono hk ht, ih r2⟩
theorem PRels.mono {K : Type} (hk : ∀ a k, κ a = some k → κ' a = some k) (ht : KeepT κ h h') {v : List (K × V)} {u : List (K × Value)} (r : PRels κ h v u) : PRels κ' h' v u := by
  induction v generalizing u with
  | nil => cases r.nil_eq; trivial
  | cons a l ih => obtain ⟨_, _, rfl, r1, r2⟩ := r.cons_ex; exact ⟨rfl, r1.mono hk ht, ih r2⟩
theorem VRels.length {v : List V} {u : List Value} (r : VRels κ h v u) : v.length = u.length := by
  induction v generalizing u with
  | nil => cases r.nil_eq; rfl
  | cons a l ih => obtain ⟨_, _, rfl, _, r2⟩ := r.cons_ex; exact congrArg (· + 1) (ih r2)
theorem PRels.keys {K : Type} {v : List (K × V)} {u : List (K × Value)} (r : PRels κ h v u) : v.map (·.1) = u.map (·.1) := by
  induction v generalizing u with
  | nil => cases r.nil_eq; rfl
  | cons a l ih => obtain ⟨_, _, rfl, _, r2⟩ := r.cons_ex; exact congrArg (a.1 :: ·) (ih r2)
theorem PRels.length {K : Type} {v : List (K × V)} {u : List (K × Value)} (r : PRels κ h v u) : v.length = u.length := by
  have := congrArg List.length r.keys; rw [List.length_map, List.length_map] at this; exact this
theorem VRels.get {v : List V} {u : List Value} {i : Nat} {x : V} (r : VRels κ h v u) (e : v[i]? = some x) : ∃ y, u[i]? = some y ∧ VRel κ h x y := by
  induction v generalizing u i with
  | nil => cases e
  | cons a l ih =>
    obtain ⟨u, _, rfl, r1, r2⟩ := r.cons_ex
    cases i with
    | zero => cases e; exact ⟨u, rfl, r1⟩
    | succ i => exact ih (i := i) r2 e
theorem VRels.append {v v' : List V} {u u' : List Value} (r : VRels κ h v u) (b : VRels κ h v' u') : VRels κ h (v ++ v') (u ++ u') := by
  induction v generalizing u with
  | nil => cases r.nil_eq; exact b
  | cons a l ih => obtain ⟨_, _, rfl, r1, r2⟩ := r.cons_ex; exact ⟨r1, ih r2⟩
theorem VRels.set {v : List V} {u : List Value} {x : V} {y : Value} (i : Nat) (r : VRels κ h v u) (b : VRel κ h x y) : VRels κ h (v.set i x) (u.set i y) := by
  induction v generalizing u i with
  | nil => cases r.nil_eq; trivial
  | cons a l ih =>
    obtain ⟨_, _, rfl, r1, r2⟩ := r.cons_ex
    cases i with
    | zero => exact ⟨b, r2⟩
    | succ i => exact ⟨r1, ih i r2⟩
theorem VRels.take {v : List V} {u : List Value} (i : Nat) (r : VRels κ h v u) : VRels κ h (v.take i) (u.take i) := by
  induction v generalizing u i with
  | nil => cases r.nil_eq; rw [List.take_nil, List.take_nil]; trivial
  | cons a l ih =>
    obtain ⟨_, _, rfl, r1, r2⟩ := r.cons_ex
    cases i with
    | zero => trivial
    | succ i => exact ⟨r1, ih i r2⟩
theorem VRels.reverse {v : List V} {u : List Value} (r : VRels κ h v u) : VRels κ h v.reverse u.reverse := by
  induction v generalizing u with
  | nil => cases r.nil_eq; trivial
  | cons a l ih => obtain ⟨_, _, rfl, r1, r2⟩ := r.cons_ex; rw [List.reverse_cons, List.reverse_cons]; exact (ih r2).append ⟨r1, trivial⟩
end
end
section
section
variable {prog : Program} {w : World} {A : Around} {E : Value → Shared → Prop} {s : Shared}
theorem eqBool_str_int {a : Str} {t : Tok} {b : Int} {u : Tok} {Q : Bool → Shared → Prop} (h : Q false s) : wpAny (model prog w) A (eqBool (.str a t) (.int b u)) Q E s := by
  unfold eqBool
  exact wpAny_bind (EqMixed.eq_str_int (wpAny_truthy_bool h))
theorem eqBool_int_str {a : Str} {t : Tok} {b : Int} {u : Tok} {Q : Bool → Shared → Prop} (h : Q false s) : wpAny (model prog w) A (eqBool (.int b u) (.str a t)) Q E s := by
  unfold eqBool
  exact wpAny_bind (EqMixed.eq_int_str (wpAny_truthy_bool h))
end
noncomputable abbrev MK := Str ⊕ Int
noncomputable def isMix : MK → Value → Bool
  | .inl x, v => Value.isStrOf x v
  | .inr i, v => Value.isInt i v
noncomputable def mixKind (prog : Program) (w : World) : KeyKind prog w MK where
  is := isMix
  hash := fun | .inl x => hashStr w x | .inr i => hashInt i
  inj := fun v a b ha hb => by
    cases a with
    | inl x =>
      obtain ⟨t, rfl⟩ := Value.isStrOf_shape (x := x) ha
      cases b with
      | inl y => exact congrArg _ (Value.isStrOf_inj (.str x t) x y ha hb)
      | inr j => cases hb
    | inr i =>
      obtain ⟨t, rfl⟩ := Value.isInt_shape (k := i) ha
      cases b with
      | inl y => cases hb
      | inr j => exact congrArg _ (Value.isInt_inj (.int i t) i j ha hb)
  byValue := fun k v h => by
    cases k with
    | inl x => obtain ⟨t, rfl⟩ := Value.isStrOf_shape (x := x) h; rfl
    | inr i => obtain ⟨t, rfl⟩ := Value.isInt_shape (k := i) h; rfl
  pyHash := fun {A E s k v Q} hv h => by
    cases k with
    | inl x => obtain ⟨t, rfl⟩ := Value.isStrOf_shape (x := x) hv; exact wpAny_pyHash_str h
    | inr i => obtain ⟨t, rfl⟩ := Value.isInt_shape (k := i) hv; exact wpAny_pyHash_int h
  eqBool := fun {A E s a b u v Q} hu hv h => by
    cases a with
    | inl x =>
      obtain ⟨t, rfl⟩ := Value.isStrOf_shape (x := x) hu
      cases b with
      | inl y =>
        obtain ⟨t', rfl⟩ := Value.isStrOf_shape (x := y) hv
        exact wpAny_eqBool_str (by simpa using h)
      | inr j =>
        obtain ⟨t', rfl⟩ := Value.isInt_shape (k := j) hv
        exact eqBool_str_int (by simpa using h)
    | inr i =>
      obtain ⟨t, rfl⟩ := Value.isInt_shape (k := i) hu
      cases b with
      | inl y =>
        obtain ⟨t', rfl⟩ := Value.isStrOf_shape (x := y) hv
        exact eqBool_int_str (by simpa using h)
      | inr j =>
        obtain ⟨t', rfl⟩ := Value.isInt_shape (k := j) hv
        exact wpAny_eqBool_int (by
          have e : (i == j) = decide ((Sum.inr i : MK) = .inr j) := by
            by_cases q : i = j
            · subst q; simp
            · simp [q]
          rw [e]; exact h)
  «strs» := fun k x t v h => by
    cases k with
    | inl y =>
      obtain ⟨u, hu⟩ := Value.isStrOf_shape (x := y) (v := .str x t) h
      injection hu with hx
      subst hx
      cases v <;> rfl
    | inr i => simp [isMix, Value.isInt] at h
end
section
noncomputable def tkey (k : Str × Int) : List MK := [.inl k.1, .inr k.2]
theorem tkey_inj {a b : Str × Int} (h : tkey a = tkey b) : a = b := by
  obtain ⟨a1, a2⟩ := a; obtain ⟨b1, b2⟩ := b
  simp [tkey] at h; rw [h.1, h.2]
def TRels (κ : Km) (h : Heap) : List ((Str × Int) × V) → List (List MK × Addr × Value) → Prop
  | [], [] => True
  | a :: l, v :: vs => (tkey a.1 = v.1 ∧ κ v.2.1 = some .tup) ∧ VRel κ h a.2 v.2.2 ∧ TRels κ h l vs
  | _, _ => False
theorem TRels.cons_ex {κ : Km} {h : Heap} {a : (Str × Int) × V} {l : List ((Str × Int) × V)} {us : List (List MK × Addr × Value)} (r : TRels κ h (a :: l) us) : ∃ x u r, us = (tkey a.1, x, u) :: r ∧ κ x = some .tup ∧ VRel κ h a.2 u ∧ TRels κ h l r := by
  cases us with
  | nil => exact r.elim
  | cons u us => obtain ⟨_, x, u⟩ := u; obtain ⟨⟨e, e2⟩, r⟩ := r; cases e; exact ⟨x, u, us, rfl, e2, r⟩
theorem TRels.nil_eq {κ : Km} {h : Heap} {us : List (List MK × Addr × Value)} (r : TRels κ h [] us) : us = [] := by
  cases us with
  | nil => rfl
  | cons u us => exact r.elim
theorem TRels.mono {κ κ' : Km} {h h' : Heap} (hk : ∀ a k, κ a = some k → κ' a = some k) (ht : KeepT κ h h') {v : List ((Str × Int) × V)} {u : List (List MK × Addr × Value)} (r : TRels κ h v u) : TRels κ' h' v u := by
  induction v generalizing u with
  | nil => cases r.nil_eq; trivial
  | cons a l ih => obtain ⟨x, _, _, rfl, e, r1, r2⟩ := r.cons_ex; exact ⟨⟨rfl, hk _ _ e⟩, r1.mono hk ht, ih r2⟩
set_option genInjectivity false in
structure GC where
  prog : Program
  w : World
  K : Frag
  hB : Heap
  os : OsState
  clsA : Nat → Addr
  ncls : Nat
  fname : List Str
  mg : Str → Option Value
  mb : Str → Option Value
  KX : K.In hB
  lim : hB.NoLimit
  ng : hB.Ns mainGlobals mg
  nb : hB.Ns builtinsNs mb
  mbI : ∀ x, x ≠ ("__name__" : Str) → mb x = bootBuiltins x
  cls : ∀ c, c < ncls → ∃ cd, clsIn K (clsA c) = some cd ∧ cd.hasDict = true ∧ findIn K (.ref (clsA c)) "__getattribute__" = some (some (.builtin "object.__getattribute__")) ∧
    findIn K (.ref (clsA c)) "__setattr__" = some (some (.builtin "object.__setattr__")) ∧ plainOver K (clsA c) = true
  clsG : ∀ c, c < ncls → findIn K (.ref (clsA c)) "__getattr__" = some none
  clsM : ∀ c, c < ncls → makesIn K (clsA c) = true
  fno : ∀ c, c < ncls → ∀ x ∈ fname, findIn K (.ref (clsA c)) x = some none
  fnd : fname.Nodup
  fsz : fname.length ≤ 1000
  sys : 1 < hB.objs.size
noncomputable abbrev GC.M (X : GC) : Model := model X.prog X.w
def InstRel (fname : List Str) (κ : Km) (h : Heap) (fl : Nat → Option V) (m : Str → Option Value) : Prop :=
  (∀ i x, fname[i]? = some x → match fl i with | some v => ∃ u, m x = some u ∧ VRel κ h v u | none => m x = none) ∧ ∀ x, x ∉ fname → m x = none
def CellAt (X : GC) (κ : Km) (h : Heap) (σ : H) : Kd → Addr → Prop
  | .idict, _ => True
  | .tup, a => κ a = some .tup ∧ ∃ its, IsTup h a its
  | .inst c, a => c < X.ncls ∧ ∃ d, a = d + 1 ∧ κ d = some .idict ∧ h.get? a = some (instObj (X.clsA c) d) ∧ ∃ m, h.Ns1 d m ∧ InstRel X.fname κ h (σ.fld c a) m
  | .lst k, a => ∃ vs n, h.get? a = some { cls := .type "list", data := .seq vs n } ∧ VRels κ h (σ.lst k a) vs.toList
  | .dS k, a => ∃ kvs, h.DictAt (strKind X.prog X.w) a kvs (σ.dS k a).2 ∧ PRels κ h (σ.dS k a).1 kvs
  | .dI k, a => ∃ kvs, h.DictOf (intKind X.prog X.w) a kvs ∧ PRels κ h (σ.dI k a) kvs
  | .dT k, a => ∃ xs, h.DictOfH (tupleKind (mixKind X.prog X.w)) a xs ∧ TRels κ h (σ.dT k a) xs
structure Wf (X : GC) (κ : Km) (P : Addr → Obj → Prop) (σ : H) (s : Shared) : Prop where
  base : ∀ a o, X.hB.get? a = some o → s.heap.get? a = some o
  prot : ∀ a o, P a o → s.heap.get? a = some o
  apZ : ∀ a k, κ a = some k → X.hB.objs.size ≤ a
  apP : ∀ a k o, κ a = some k → ¬ P a o
  low : ∀ a k, κ a = some k → k ≠ .tup → a < σ.nxt
  size : σ.nxt ≤ s.heap.objs.size
  cell : ∀ a k, κ a = some k → CellAt X κ s.heap σ k a
  gens : s.gens = #[]
  os : s.os = X.os
  szB : X.hB.objs.size ≤ s.heap.objs.size
theorem get_none_of_size {h : Heap} {a : Addr} (q : h.objs.size ≤ a) : h.get? a = none := by
  cases e : h.get? a with
  | none => rfl
  | some o => exact absurd (Heap.lt_size e) (Nat.not_lt.mpr q)
theorem Wf.apB {X : GC} {κ : Km} {P : Addr → Obj → Prop} {σ : H} {s : Shared} (W : Wf X κ P σ s) (a : Addr) (k : Kd) (e : κ a = some k) : X.hB.get? a = none := get_none_of_size (W.apZ a k e)
theorem Wf.nsys {X : GC} {κ : Km} {P : Addr → Obj → Prop} {σ : H} {s : Shared} (W : Wf X κ P σ s) {a : Addr} {k : Kd} (e : κ a = some k) : (a == sysModules) = false := by
  have h1 := W.apZ a k e
  have h2 := X.sys
  refine beq_eq_false_iff_ne.mpr fun z => ?_
  rw [z] at h1
  exact absurd (show 1 < 1 from Nat.lt_of_lt_of_le h2 h1) (Nat.lt_irrefl 1)
theorem InstRel.mono {fname : List Str} {κ κ' : Km} {h h' : Heap} {fl : Nat → Option V} {m : Str → Option Value} (hk : ∀ a k, κ a = some k → κ' a = some k) (ht : KeepT κ h h') (x : InstRel fname κ h fl m) : InstRel fname κ' h' fl m :=
  ⟨fun i y e => by
    have := x.1 i y e
    revert this
    cases fl i with
    | none => exact id
    | some v => exact fun ⟨u, p, q⟩ => ⟨u, p, q.mono hk ht⟩, x.2⟩
theorem tupK {prog : Program} {w : World} {κ : Km} {h h' : Heap} (ht : KeepT κ h h') {ks : List MK} {a : Addr} (q : κ a = some .tup) (x : IsTupleKey (mixKind prog w) h ks a) : IsTupleKey (mixKind prog w) h' ks a := by
  obtain ⟨o, items, n, ho, hc, hd, hi⟩ := x
  obtain ⟨o', ho', hc', n', hd'⟩ := ht a items q ⟨o, ho, hc, n, hd⟩
  exact ⟨o', items, n', ho', hc', hd', hi⟩
theorem TRels.tups {κ : Km} {h : Heap} {v : List ((Str × Int) × V)} {u : List (List MK × Addr × Value)} (r : TRels κ h v u) : ∀ y ∈ u, κ y.2.1 = some .tup := by
  induction v generalizing u with
  | nil => cases r.nil_eq; exact fun _ h => (List.not_mem_nil h).elim
  | cons a l ih => obtain ⟨x, _, _, rfl, e, _, r2⟩ := r.cons_ex; exact List.forall_mem_cons.mpr ⟨e, ih r2⟩
theorem DictOfH.keepBut {prog : Program} {w : World} {κ : Km} {h h' : Heap} {a x : Addr} {xs} (D : h.DictOfH (tupleKind (mixKind prog w)) a xs) (hs : Heap.ExtBut x h h') (ne : a ≠ x) (ht : KeepT κ h h') (hq : ∀ y ∈ xs, κ y.2.1 = some .tup) : h'.DictOfH (tupleKind (mixKind prog w)) a xs := by
  obtain ⟨o, es, ep, ho, r1, r2, r3, r4, r5⟩ := D
  exact ⟨o, es, ep, hs a o ne ho, r1, r2, r3, fun y hy => tupK ht (hq y hy) (r4 y hy), r5⟩
def owns (k : Kd) (a x : Addr) : Prop := a = x ∨ ∃ c, k = .inst c ∧ a = x + 1
theorem ns1_extBut {h h' : Heap} {a b : Addr} {m : Str → Option Value} (x : h.Ns1 a m) (hs : Heap.ExtBut b h h') (ne : a ≠ b) : h'.Ns1 a m :=
  let ⟨o, es, ep, ho, r⟩ := x; ⟨o, es, ep, hs a o ne ho, r⟩
theorem CellAt.ext {X : GC} {κ κ' : Km} {h h' : Heap} {σ σ' : H} {k : Kd} {a x : Addr} (C : CellAt X κ h σ k a) (hk : ∀ a k, κ a = some k → κ' a = some k) (hs : Heap.ExtBut x h h') (ht : KeepT κ h h') (ne : ¬ owns k a x)
    (hf : ∀ c, k = .inst c → σ'.fld c a = σ.fld c a) (hl : ∀ c, k = .lst c → σ'.lst c a = σ.lst c a) (hS : ∀ c, k = .dS c → σ'.dS c a = σ.dS c a) (hI : ∀ c, k = .dI c → σ'.dI c a = σ.dI c a) (hT : ∀ c, k = .dT c → σ'.dT c a = σ.dT c a) :
    CellAt X κ' h' σ' k a := by
  have ne1 : a ≠ x := fun e => ne (.inl e)
  cases k with
  | idict => trivial
  | tup => exact ⟨hk _ _ C.1, C.2.imp fun its t => ht _ _ C.1 t⟩
  | inst c =>
    obtain ⟨hc, d, rfl, hd, ho, m, hm, hr⟩ := C
    have ne2 : d ≠ x := fun e => ne (.inr ⟨c, rfl, by rw [e]⟩)
    exact ⟨hc, d, rfl, hk _ _ hd, hs _ _ ne1 ho, m, ns1_extBut hm hs ne2, by rw [hf c rfl]; exact hr.mono hk ht⟩
  | lst c =>
    obtain ⟨vs, n, ho, hr⟩ := C
    exact ⟨vs, n, hs _ _ ne1 ho, by rw [hl c rfl]; exact hr.mono hk ht⟩
  | dS c =>
    obtain ⟨kvs, ho, hr⟩ := C
    refine ⟨kvs, ?_, ?_⟩
    · rw [hS c rfl]; exact ho.extBut hs ne1
    · rw [hS c rfl]; exact hr.mono hk ht
  | dI c =>
    obtain ⟨kvs, ho, hr⟩ := C
    exact ⟨kvs, ho.extBut hs ne1, by rw [hI c rfl]; exact hr.mono hk ht⟩
  | dT c =>
    obtain ⟨xs, ho, hr⟩ := C
    exact ⟨xs, DictOfH.keepBut ho hs ne1 ht hr.tups, by rw [hT c rfl]; exact hr.mono hk ht⟩
theorem extBut_size {h h' : Heap} (k : ∀ a o, h.get? a = some o → h'.get? a = some o) (x : Addr) : Heap.ExtBut x h h' := fun a o _ e => k a o e
structure Free (X : GC) (κ : Km) (P : Addr → Obj → Prop) (h : Heap) (x : Addr) : Prop where
  k : κ x = none
  b : X.hB.get? x = none
  p : ∀ o, ¬ P x o
theorem Wf.lt {X : GC} {κ : Km} {P : Addr → Obj → Prop} {σ : H} {s : Shared} (W : Wf X κ P σ s) {a : Addr} {k : Kd} (h : κ a = some k) : a < s.heap.objs.size := by
  by_cases q : k = .tup
  · subst q
    obtain ⟨_, _, o, ho, _⟩ := W.cell a _ h
    exact Heap.lt_size ho
  · exact Nat.lt_of_lt_of_le (W.low a k h q) W.size
theorem Wf.fresh {X : GC} {κ : Km} {P : Addr → Obj → Prop} {σ : H} {s : Shared} (W : Wf X κ P σ s) {x : Addr} (hx : s.heap.objs.size ≤ x) : Free X κ P s.heap x where
  k := by
    cases e : κ x with
    | none => rfl
    | some k => exact absurd (W.lt e) (Nat.not_lt.mpr hx)
  b := by
    cases e : X.hB.get? x with
    | none => rfl
    | some o => exact absurd (Heap.lt_size (W.base x o e)) (Nat.not_lt.mpr hx)
  p := fun o q => absurd (Heap.lt_size (W.prot x o q)) (Nat.not_lt.mpr hx)
theorem Wf.step {X : GC} {κ : Km} {P : Addr → Obj → Prop} {σ : H} {s s' : Shared} (W : Wf X κ P σ s) {x : Addr} (F : Free X κ P s.heap x) (hs : Heap.ExtBut x s.heap s'.heap) (hz : s.heap.objs.size ≤ s'.heap.objs.size) (hg : s'.gens = s.gens) (ho : s'.os = s.os) : Wf X κ P σ s' where
  base a o e := hs a o (fun q => by rw [q, F.b] at e; cases e) (W.base a o e)
  prot a o e := hs a o (fun q => F.p o (q ▸ e)) (W.prot a o e)
  apZ := W.apZ
  apP := W.apP
  low := W.low
  size := Nat.le_trans W.size hz
  cell a k e := by
    refine (W.cell a k e).ext (fun _ _ z => z) hs (KeepT.non hs (by rw [F.k]; simp)) ?_ (fun _ _ => rfl) (fun _ _ => rfl) (fun _ _ => rfl) (fun _ _ => rfl) (fun _ _ => rfl)
    rintro (q | ⟨c, rfl, q⟩)
    · rw [q, F.k] at e; cases e
    · obtain ⟨_, d, e1, e2, _⟩ := W.cell a _ e
      have : d = x := Nat.succ.inj (e1.symm.trans q)
      rw [this, F.k] at e2; cases e2
  gens := hg.trans W.gens
  os := ho.trans W.os
  szB := Nat.le_trans W.szB hz
theorem Wf.ext {X : GC} {κ : Km} {P : Addr → Obj → Prop} {σ : H} {s s' : Shared} (W : Wf X κ P σ s) (hs : ∀ a o, s.heap.get? a = some o → s'.heap.get? a = some o) (hz : s.heap.objs.size ≤ s'.heap.objs.size) (hg : s'.gens = s.gens) (ho : s'.os = s.os) : Wf X κ P σ s' :=
  W.step (W.fresh (x := s.heap.objs.size) (Nat.le_refl _)) (extBut_size hs _) hz hg ho
theorem Wf.put {X : GC} {κ : Km} {P : Addr → Obj → Prop} {σ σ' : H} {s s' : Shared} (W : Wf X κ P σ s) {x : Addr} {kx : Kd} (hx : κ x = some kx) (hT : kx ≠ .tup) (hs : Heap.ExtBut x s.heap s'.heap) (hz : s.heap.objs.size ≤ s'.heap.objs.size) (hg : s'.gens = s.gens) (ho : s'.os = s.os)
    (hn : σ'.nxt = σ.nxt) (hc : ∀ a k, κ a = some k → owns k a x → CellAt X κ s'.heap σ' k a)
    (hf : ∀ c a, κ a = some (.inst c) → ¬ owns (.inst c) a x → σ'.fld c a = σ.fld c a) (hl : ∀ c a, κ a = some (.lst c) → a ≠ x → σ'.lst c a = σ.lst c a) (hS : ∀ c a, κ a = some (.dS c) → a ≠ x → σ'.dS c a = σ.dS c a)
    (hI : ∀ c a, κ a = some (.dI c) → a ≠ x → σ'.dI c a = σ.dI c a) (hD : ∀ c a, κ a = some (.dT c) → a ≠ x → σ'.dT c a = σ.dT c a) : Wf X κ P σ' s' where
  base a o e := hs a o (fun q => by rw [q, W.apB x kx hx] at e; cases e) (W.base a o e)
  prot a o e := hs a o (fun q => W.apP x kx o hx (q ▸ e)) (W.prot a o e)
  apZ := W.apZ
  apP := W.apP
  low a k e q := hn ▸ W.low a k e q
  size := hn ▸ Nat.le_trans W.size hz
  cell a k e := by
    by_cases q : owns k a x
    · exact hc a k e q
    · exact (W.cell a k e).ext (fun _ _ z => z) hs (KeepT.non hs (by rw [hx]; simpa using hT)) q (fun c h => hf c a (h ▸ e) (h ▸ q)) (fun c h => hl c a (h ▸ e) fun z => q (.inl z)) (fun c h => hS c a (h ▸ e) fun z => q (.inl z))
        (fun c h => hI c a (h ▸ e) fun z => q (.inl z)) (fun c h => hD c a (h ▸ e) fun z => q (.inl z))
  gens := hg.trans W.gens
  os := ho.trans W.os
  szB := Nat.le_trans W.szB hz
end
section
noncomputable def upd (κ : Km) (a : Addr) (k : Kd) : Km := fun b => if b = a then some k else κ b
theorem upd_self (κ : Km) (a : Addr) (k : Kd) : upd κ a k a = some k := by simp [upd]
theorem upd_ne {κ : Km} {a b : Addr} {k : Kd} (h : b ≠ a) : upd κ a k b = κ b := by simp [upd, h]
theorem Wf.alloc {X : GC} {κ : Km} {P : Addr → Obj → Prop} {σ σ' : H} {s s' : Shared} (W : Wf X κ P σ s) {a : Addr} {k : Kd} (ha : s.heap.objs.size ≤ a) (hs : ∀ a o, s.heap.get? a = some o → s'.heap.get? a = some o) (hz : a < s'.heap.objs.size) (hg : s'.gens = s.gens) (ho : s'.os = s.os)
    (hn : σ'.nxt = a + 1) (hc : CellAt X (upd κ a k) s'.heap σ' k a) (hf : ∀ c b, b ≠ a → σ'.fld c b = σ.fld c b) (hl : ∀ c b, b ≠ a → σ'.lst c b = σ.lst c b) (hS : ∀ c b, b ≠ a → σ'.dS c b = σ.dS c b) (hI : ∀ c b, b ≠ a → σ'.dI c b = σ.dI c b)
    (hD : ∀ c b, b ≠ a → σ'.dT c b = σ.dT c b) : Wf X (upd κ a k) P σ' s' ∧ ∀ b j, κ b = some j → upd κ a k b = some j := by
  have F := W.fresh ha
  have mono : ∀ b j, κ b = some j → upd κ a k b = some j := fun b j e => by
    rw [upd_ne]; exact e
    intro q; rw [q, F.k] at e; cases e
  refine ⟨⟨fun b o e => hs b o (W.base b o e), fun b o e => hs b o (W.prot b o e), fun b j e => ?_, fun b j o e q => ?_, fun b j e _ => ?_, hn ▸ hz, fun b j e => ?_, hg.trans W.gens, ho.trans W.os, Nat.le_trans W.szB (Nat.le_trans ha (Nat.le_of_lt hz))⟩, mono⟩
  · by_cases q : b = a
    · rw [q]; exact Nat.le_trans W.szB ha
    · rw [upd_ne q] at e; exact W.apZ b j e
  · by_cases z : b = a
    · rw [z] at q; exact F.p o q
    · rw [upd_ne z] at e; exact W.apP b j o e q
  · rw [hn]
    by_cases q : b = a
    · rw [q]; exact Nat.lt_succ_self a
    · rw [upd_ne q] at e; exact Nat.lt_succ_of_lt (Nat.lt_of_lt_of_le (W.lt e) ha)
  · by_cases q : b = a
    · subst q; rw [upd_self] at e; cases e; exact hc
    · rw [upd_ne q] at e
      refine (W.cell b j e).ext mono (extBut_size hs a) (KeepT.of hs) ?_ (fun c _ => hf c b q) (fun c _ => hl c b q) (fun c _ => hS c b q) (fun c _ => hI c b q) (fun c _ => hD c b q)
      rintro (z | ⟨c, rfl, z⟩)
      · exact q z
      · have := W.lt e
        have z' : b = a + 1 := z
        rw [z'] at this
        exact absurd (Nat.lt_of_lt_of_le this ha) (by exact Nat.not_lt.mpr (Nat.le_succ a))
noncomputable abbrev Ls := List (Option V)
inductive Fl where
  | next | ret (v : V)
abbrev E1 := Ls → H → (V → H → Prop) → Prop
abbrev S1 := Ls → H → (Fl → Ls → H → Prop) → Prop
structure FA (X : GC) (κ : Km) (P : Addr → Obj → Prop) (h : Heap) (a : Addr) : Prop where
  k : κ a = none
  b : X.hB.get? a = none
  p : ∀ o, ¬ P a o
  o : ∃ o, h.get? a = some o ∧ ∀ xs n, o.data ≠ .seq xs n
theorem FA.free {X : GC} {κ : Km} {P : Addr → Obj → Prop} {h : Heap} {a : Addr} (F : FA X κ P h a) : Free X κ P h a := ⟨F.k, F.b, F.p⟩
def LocAt (κ : Km) (h : Heap) (env : Env) (m : Str → Option Value) (x : Str) (v : V) : Prop :=
  ∃ u, VRel κ h v u ∧ ((env.kindOf x = some .local ∧ m x = some u) ∨ ((env.kindOf x = some .cell ∨ env.kindOf x = some .free) ∧ ∃ c, env.cells.lookup x = some c ∧ h.IsCell c (some u)))
def isFA (env : Env) (a : Addr) : Prop := a = env.locals ∨ ∃ x, (x, a) ∈ env.cells
structure Fr0 (X : GC) (κ : Km) (P : Addr → Obj → Prop) (env : Env) (names : List Str) (ls : Ls) (h : Heap) : Prop where
  free : ∀ a, isFA env a → FA X κ P h a
  len : ls.length = names.length
  loc : ∃ m, h.Ns env.locals m ∧ ∀ (i : Nat) (x : Str) (v : V), names[i]? = some x → ls[i]? = some (some v) → LocAt κ h env m x v
  cells : ∀ x, env.kindOf x = some .cell → ∃ c v, env.cells.lookup x = some c ∧ h.IsCell c v
  nd : names.Nodup
  cap : ∀ x y c, env.cells.lookup x = some c → env.cells.lookup y = some c → y = x
theorem mem_of_look {x : Str} {c : Addr} : ∀ {l : List (Str × Addr)}, l.lookup x = some c → (x, c) ∈ l
  | [], e => by simp at e
  | (y, d) :: r, e => by
    rw [List.lookup_cons] at e
    split at e
    · rename_i q; cases e; rw [eq_of_beq q]; exact .head _
    · exact .tail _ (mem_of_look e)
theorem Fr0.keep {X : GC} {κ κ' : Km} {P P' : Addr → Obj → Prop} {env : Env} {names : List Str} {ls : Ls} {h h' : Heap} (F : Fr0 X κ P env names ls h) (hk : ∀ a k, κ a = some k → κ' a = some k) (ht : KeepT κ h h')
    (hn : ∀ a, isFA env a → κ' a = none) (hP : ∀ a, isFA env a → ∀ o, ¬ P' a o) (hs : ∀ a o, isFA env a → h.get? a = some o → h'.get? a = some o) : Fr0 X κ' P' env names ls h' where
  free a ha := let f := F.free a ha; ⟨hn a ha, f.b, hP a ha, let ⟨o, ho, z⟩ := f.o; ⟨o, hs a o ha ho, z⟩⟩
  len := F.len
  loc := by
    obtain ⟨m, ⟨o, es, ep, ho, r⟩, hm⟩ := F.loc
    refine ⟨m, ⟨o, es, ep, hs _ _ (.inl rfl) ho, r⟩, fun i x v e1 e2 => ?_⟩
    obtain ⟨u, hu, q⟩ := hm i x v e1 e2
    refine ⟨u, hu.mono hk ht, q.imp id fun ⟨z, c, hc, ⟨o, ho, hd⟩⟩ => ⟨z, c, hc, ⟨o, hs _ _ (.inr ⟨x, mem_of_look hc⟩) ho, hd⟩⟩⟩
  cells x e := let ⟨c, v, hc, ⟨o, ho, hd⟩⟩ := F.cells x e; ⟨c, v, hc, ⟨o, hs _ _ (.inr ⟨x, mem_of_look hc⟩) ho, hd⟩⟩
  nd := F.nd
  cap := F.cap
structure EnvOk (env : Env) (sc : Scope) : Prop where
  scope : env.scope = sc
  kind : sc.kind = ScopeKind.function
  g : env.globals = mainGlobals
  b : env.builtins = builtinsNs
structure Rm (n : Nat) (A : Around) : Prop where
  d : A.depth + n ≤ recursionLimit
  u : A.units + 4 * n + 200 ≤ cLine
  h : A.handled = none
theorem Rm.c {n : Nat} {A : Around} (h : Rm n A) (k : Nat) (e : k < 200 := by decide) : A.units + k < cLine := Nat.lt_of_lt_of_le (Nat.add_lt_add_left e _) (Nat.le_trans (by rw [Nat.add_right_comm]; exact Nat.le_add_right _ _) h.u)
theorem u_k {a n c k : Nat} (h : a + 4 * (n + 1) + 200 ≤ c) (hk : k ≤ 4) : a + k + 4 * n + 200 ≤ c := by omega
theorem len_line {n : Nat} (h : n ≤ 1000) : n ≤ sizeLine := by rw [sizeLine_eq]; exact Nat.le_trans h (by decide)
theorem Rm.mono {n m : Nat} {A : Around} (h : Rm n A) (e : m ≤ n) : Rm m A := ⟨Nat.le_trans (Nat.add_le_add_left e _) h.d, Nat.le_trans (Nat.add_le_add_right (Nat.add_le_add_left (Nat.mul_le_mul_left 4 e) _) _) h.u, h.h⟩
theorem Rm.deeper {n : Nat} {A : Around} {env : Env} (h : Rm (n + 1) A) : Rm n (A.deeper env) := ⟨pb2 h.d, by rw [Around.deeper_units]; exact u_k h.u (by decide), h.h⟩
def no : Value → Shared → Prop := fun _ _ => False
structure St (X : GC) (κ : Km) (P : Addr → Obj → Prop) (env : Env) (names : List Str) (ls : Ls) (σ : H) (s : Shared) : Prop where
  w : Wf X κ P σ s
  f : Fr0 X κ P env names ls s.heap
structure Go (κ κ' : Km) (s s' : Shared) : Prop where
  k : ∀ a j, κ a = some j → κ' a = some j
  t : KeepT κ s.heap s'.heap
theorem Go.refl (κ : Km) (s : Shared) : Go κ κ s s := ⟨fun _ _ e => e, .refl _⟩
theorem Go.trans {a b c : Km} {s t u : Shared} (x : Go a b s t) (y : Go b c t u) : Go a c s u := ⟨fun p j e => y.k p j (x.k p j e), x.t.trans x.k y.t⟩
theorem Go.kt {κ κ' : Km} {s s₁ s₂ : Shared} (g : Go κ κ' s s₁) (k : KeepT κ' s₁.heap s₂.heap) : Go κ κ' s s₂ := ⟨g.k, g.t.trans g.k k⟩
theorem Go.v {κ κ' : Km} {s s' : Shared} (g : Go κ κ' s s') {v : V} {u : Value} (r : VRel κ s.heap v u) : VRel κ' s'.heap v u := r.mono g.k g.t
theorem Go.vs {κ κ' : Km} {s s' : Shared} (g : Go κ κ' s s') {v : List V} {u : List Value} (r : VRels κ s.heap v u) : VRels κ' s'.heap v u := r.mono g.k g.t
inductive PostE (X : GC) (P : Addr → Obj → Prop) (env : Env) (names : List Str) (ls : Ls) (κ : Km) (s : Shared) (Q : V → H → Prop) (u : Value) (s' : Shared) : Prop where
  | mk (κ' : Km) (σ' : H) (v : V) (g : Go κ κ' s s') (S : St X κ' P env names ls σ' s') (r : VRel κ' s'.heap v u) (q : Q v σ')
def SoundE (X : GC) (n : Nat) (sc : Scope) (names : List Str) (e : Expr) (t : E1) : Prop :=
  ∀ env A κ P ls σ s Q, EnvOk env sc → Rm n A → St X κ P env names ls σ s → t ls σ Q → wpAny X.M A (eval e env) (PostE X P env names ls κ s Q) no s
def FRel (κ : Km) (h : Heap) : Fl → Flow → Prop
  | .next, f => f = .next
  | .ret v, f => ∃ u, f = .ret u ∧ VRel κ h v u
inductive PostS (X : GC) (P : Addr → Obj → Prop) (env : Env) (names : List Str) (κ : Km) (s : Shared) (Q : Fl → Ls → H → Prop) (u : Flow) (s' : Shared) : Prop where
  | mk (κ' : Km) (σ' : H) (ls' : Ls) (f : Fl) (g : Go κ κ' s s') (S : St X κ' P env names ls' σ' s') (r : FRel κ' s'.heap f u) (q : Q f ls' σ')
def SoundS (X : GC) (n : Nat) (sc : Scope) (names : List Str) (st : Stmt) (t : S1) : Prop :=
  ∀ env A κ P ls σ s Q, EnvOk env sc → Rm n A → St X κ P env names ls σ s → t ls σ Q → wpAny X.M A (exec st env) (PostS X P env names κ s Q) no s
def SoundB (X : GC) (n : Nat) (sc : Scope) (names : List Str) (st : List Stmt) (t : S1) : Prop :=
  ∀ env A κ P ls σ s Q, EnvOk env sc → Rm n A → St X κ P env names ls σ s → t ls σ Q → wpAny X.M A (execs st env) (PostS X P env names κ s Q) no s
abbrev F1 := List V → H → (V → H → Prop) → Prop
inductive PostF (X : GC) (P : Addr → Obj → Prop) (κ : Km) (s : Shared) (Q : V → H → Prop) (r : Result) (s' : Shared) : Prop where
  | mk (κ' : Km) (σ' : H) (v : V) (u : Value) (e : r = .ok (.ret u)) (g : Go κ κ' s s') (S : Wf X κ' P σ' s') (h : VRel κ' s'.heap v u) (q : Q v σ')
def SoundF (X : GC) (n : Nat) (f : Addr) (t : F1) : Prop :=
  ∀ A κ P σ s Q vs us, Rm n A → Wf X κ P σ s → VRels κ s.heap vs us → t vs σ Q → codeAny X.M A (.call (.ref f) ⟨us, []⟩) (PostF X P κ s Q) s
end
section
section
variable {X : GC} {κ : Km} {P : Addr → Obj → Prop} {env : Env} {names : List Str} {ls : Ls} {σ : H} {s s' : Shared} {n : Nat} {sc : Scope}
theorem St.ext (S : St X κ P env names ls σ s) (hs : ∀ a o, s.heap.get? a = some o → s'.heap.get? a = some o) (hz : s.heap.objs.size ≤ s'.heap.objs.size) (hg : s'.gens = s.gens) (ho : s'.os = s.os) : St X κ P env names ls σ s' :=
  ⟨S.w.ext hs hz hg ho, S.f.keep (fun _ _ e => e) (KeepT.of hs) (fun a ha => (S.f.free a ha).k) (fun a ha => (S.f.free a ha).p) (fun a o _ e => hs a o e)⟩
theorem St.toks (S : St X κ P env names ls σ s) (t : Nat) : St X κ P env names ls σ { s with toks := t } := S.ext (fun _ _ e => e) (Nat.le_refl _) rfl rfl
theorem St.push (S : St X κ P env names ls σ s) (o : Obj) : St X κ P env names ls σ { s with heap := s.heap.push o } :=
  S.ext (fun _ _ e => Heap.get?_push_of_some _ e) (by rw [Heap.size_push]; exact Nat.le_succ _) rfl rfl
theorem St.step (S : St X κ P env names ls σ s) {x : Addr} (F : Free X κ P s.heap x) (hx : ¬ isFA env x) (hs : Heap.ExtBut x s.heap s'.heap) (hz : s.heap.objs.size ≤ s'.heap.objs.size) (hg : s'.gens = s.gens) (ho : s'.os = s.os) : St X κ P env names ls σ s' :=
  ⟨S.w.step F hs hz hg ho, S.f.keep (fun _ _ e => e) (KeepT.non hs (by rw [F.k]; simp)) (fun a ha => (S.f.free a ha).k) (fun a ha => (S.f.free a ha).p) (fun a o ha e => hs a o (fun q => hx (q ▸ ha)) e)⟩
theorem St.lt (S : St X κ P env names ls σ s) {a : Addr} (h : isFA env a) : a < s.heap.objs.size := let ⟨_, ho, _⟩ := (S.f.free a h).o; Heap.lt_size ho
theorem St.here {Q : V → H → Prop} {v : V} {u : Value} (S : St X κ P env names ls σ s) (g : KeepT κ s.heap s'.heap) (S' : St X κ P env names ls σ s') (r : VRel κ s'.heap v u) (q : Q v σ) : PostE X P env names ls κ s Q u s' :=
  ⟨κ, σ, v, ⟨fun _ _ e => e, g⟩, S', r, q⟩
theorem PostE.from {κ' : Km} {Q : V → H → Prop} {u : Value} {s₁ : Shared} (p : PostE X P env names ls κ' s₁ Q u s') (g : Go κ κ' s s₁) : PostE X P env names ls κ s Q u s' :=
  by obtain ⟨k, q, v, g', S, r, z⟩ := p; exact ⟨k, q, v, g.trans g', S, r, z⟩
theorem SoundE.run {e : Expr} {t : E1} (h : SoundE X n sc names e t) {A : Around} {Q : V → H → Prop} {R : Value → Shared → Prop} (eo : EnvOk env sc) (rm : Rm n A) (S : St X κ P env names ls σ s) (ht : t ls σ Q)
    (k : ∀ κ' σ' s' v u, Go κ κ' s s' → St X κ' P env names ls σ' s' → VRel κ' s'.heap v u → Q v σ' → R u s') : wpAny X.M A (eval e env) R no s :=
  wpAny_mono (h env A κ P ls σ s Q eo rm S ht) (fun u s' ⟨κ', σ', v, g, S', r, q⟩ => k κ' σ' s' v u g S' r q) fun _ _ e => e
theorem St.loc (S : St X κ P env names ls σ s) {i : Nat} {x : Str} {v : V} {A : Around} {Q : Value → Shared → Prop} (eo : EnvOk env sc) (hx : names[i]? = some x) (hv : ls[i]? = some (some v)) (hn : (x == ("__classdict__" : Str)) = false) (h : ∀ u, VRel κ s.heap v u → Q u s) : wpAny X.M A (loadName env x) Q no s := by
  obtain ⟨m, hm, hl⟩ := S.f.loc
  obtain ⟨u, hu, q⟩ := hl i x v hx hv
  have hk : env.scope.kind = .function := by rw [eo.scope]; exact eo.kind
  rcases q with ⟨a, b⟩ | ⟨a | a, c, hc, hcell⟩
  · exact wpAny_loadName_local hk a hm b (h u hu)
  · exact wpAny_loadName_cell hk a hc hcell (h u hu)
  · exact wpAny_loadName_free hk a hc hcell (h u hu) hn
end
def ob {α : Type} (o : Option α) (K : α → Prop) : Prop := match o with | some w => K w | none => False
theorem ob_ex {α : Type} {o : Option α} {K : α → Prop} (h : ob o K) : ∃ w, o = some w ∧ K w := match o, h with | some w, h => ⟨w, rfl, h⟩
def pK (v : V) (_ : Ls) (σ : H) (Q : V → H → Prop) : Prop := Q v σ
def pV (i : Nat) (ls : Ls) (σ : H) (Q : V → H → Prop) : Prop := ob ls[i]? fun w => ob w fun v => Q v σ
def pF (t : E1) (f : Nat) (ls : Ls) (σ : H) (Q : V → H → Prop) : Prop := t ls σ fun v σ => match v with
  | .ref (.inst c) a => ob (σ.fld c a f) fun w => Q w σ
  | _ => False
section
variable {X : GC} {n : Nat} {sc : Scope} {names : List Str}
theorem s_none {k pos} : SoundE X n sc names (.Constant .none k pos) (pK .none) := fun env A κ P ls σ s Q _ _ S q => wpAny_Constant_none (S.here (v := .none) (.refl _) S rfl q)
theorem s_bool {b k pos} : SoundE X n sc names (.Constant (.bool b) k pos) (pK (.bool b)) := fun env A κ P ls σ s Q _ _ S q => wpAny_Constant_bool (S.here (v := .bool b) (.refl _) S rfl q)
theorem s_int {i k pos} : SoundE X n sc names (.Constant (.int i) k pos) (pK (.int i)) := fun env A κ P ls σ s Q _ _ S q => wpAny_Constant_int (S.here (v := .int i) (.refl _) (S.toks _) ⟨_, rfl⟩ q)
theorem s_str {x k pos} : SoundE X n sc names (.Constant (.str x) k pos) (pK (.str x)) := fun env A κ P ls σ s Q _ _ S q => wpAny_Constant_str (S.here (v := .str x) (.refl _) (S.toks _) ⟨_, rfl⟩ q)
theorem s_var {i : Nat} {x : Str} {pos} (hx : names[i]? = some x) (hd : (x == ("__debug__" : Str)) = false) (hn : (x == ("__classdict__" : Str)) = false) : SoundE X n sc names (.Name x pos) (pV i) := fun env A κ P ls σ s Q eo _ S q =>
  let ⟨_, hv', q⟩ := ob_ex q; let ⟨_, hv'', q⟩ := ob_ex q; have hv := hv'.trans (congrArg some hv''); wpAny_Name (S.loc eo hx hv hn fun _ hu => S.here (.refl _) S hu q) hd
theorem s_glob {x : Str} {j : Int} {t : Tok} {pos} (hx : sc.names.lookup x = some .globalImplicit) (e : nsIn X.K mainGlobals x = some (some (.int j t))) (hd : (x == ("__debug__" : Str)) = false) : SoundE X n sc names (.Name x pos) (pK (.int j)) := fun env A κ P ls σ s Q eo _ S q => by
  have hk : env.scope.kind = .function := by rw [eo.scope]; exact eo.kind
  have hx' : env.kindOf x = some .globalImplicit := by unfold Env.kindOf; rw [eo.scope]; exact hx
  exact Name_function_global hk hx' (loadGlobal_global (env := env) (mg := X.mg) (eo.g ▸ X.ng.keeps S.w.base) (mg_of X.KX X.ng e) (S.here (v := .int j) (.refl _) S ⟨_, rfl⟩ q)) hd
end
theorem lookIn_of {es : Array DictEntry} {o : Obj} {ep : Nat} {m : Str → Option Value} (hd : o.data = .dict es ep) (hk : StrKeys es) (hm : ∀ name, nsFind es name = m name) (x : Str) : lookIn x o = some (m x) := by
  unfold lookIn
  rw [hd]
  dsimp only
  have e := hm x
  unfold nsFind findBy at e
  rw [← Array.find?_toList] at e
  cases q : es.toList.find? fun e => e.key.isStr x with
  | some en => rw [q] at e; rw [← e]; rfl
  | none =>
    rw [q] at e
    rw [← e]
    have : es.toList.any (·.refKey) = false := by
      rw [Array.any_toList, Array.any_eq_false']; intro e he; obtain ⟨n, t, h⟩ := hk e he; simp [DictEntry.refKey, h]
    simp [this]
theorem handed_of {κ : Km} {h : Heap} {v : V} {u : Value} (r : VRel κ h v u) : handedIn u = true := by
  cases v with
  | none => rw [show u = .none from r]; rfl
  | bool b => rw [show u = .bool b from r]; rfl
  | int i => obtain ⟨t, rfl⟩ := r; rfl
  | str i => obtain ⟨t, rfl⟩ := r; rfl
  | p2 a b => obtain ⟨x, _, _, rfl, _⟩ := r; rfl
  | p3 a b c => obtain ⟨x, _, _, _, rfl, _⟩ := r; rfl
  | p4 a b c d => obtain ⟨x, _, _, _, _, rfl, _⟩ := r; rfl
  | ref k a => rw [r.1]; rfl
  | ext a => rw [show u = .ref a from r]; rfl
section
variable {X : GC} {κ : Km} {P : Addr → Obj → Prop} {σ : H} {s : Shared} {A : Around}
theorem Wf.kin (W : Wf X κ P σ s) : X.K.In s.heap := X.KX.keeps W.base
inductive InstR (X : GC) (κ : Km) (σ : H) (s : Shared) (c : Nat) (a : Addr) : Prop where
  | mk (d : Addr) (od : Obj) (m : Str → Option Value) (h : c < X.ncls) (e : a = d + 1) (k : κ d = some .idict) (I : InstAt s.heap a (instObj (X.clsA c) d) (X.clsA c) (some od)) (N : s.heap.Ns1 d m) (l : ∀ x, lookIn x od = some (m x)) (r : InstRel X.fname κ s.heap (σ.fld c a) m)
theorem Wf.instAt (W : Wf X κ P σ s) {c : Nat} {a : Addr} (h : κ a = some (.inst c)) : InstR X κ σ s c a := by
  obtain ⟨hc, d, e, hd, ho, m, ⟨o, es, ep, ho', hd', hk', hu', hm'⟩, hr⟩ := W.cell a _ h
  exact ⟨d, o, m, hc, e, hd, ⟨ho, rfl, rfl, ho'⟩, ⟨o, es, ep, ho', hd', hk', hu', hm'⟩, lookIn_of hd' hk' hm', hr⟩
theorem Wf.getF (W : Wf X κ P σ s) {c f : Nat} {a : Addr} {x : Str} {v : V} {expr : Bool} {Q : Value → Shared → Prop} (h : κ a = some (.inst c)) (hx : X.fname[f]? = some x) (hv : σ.fld c a f = some v)
    (q : ∀ u, VRel κ s.heap v u → Q u { s with toks := s.toks + 1 }) : wpAny X.M A (getAttr (.ref a) x expr) Q no s := by
  obtain ⟨d, od, m, hc, e, hd, I, hm, hl, hr⟩ := W.instAt h
  obtain ⟨cd, c1, c2, c3, c4, c5⟩ := X.cls c hc
  have hr' := hr.1 f x hx
  rw [hv] at hr'
  obtain ⟨u, hu, hru⟩ := hr'
  refine get_value (K := X.K) W.kin I c3 ?_ (handed_of hru) (q u hru)
  unfold findObj
  rw [c1, Option.bind_some, X.fno c hc x (List.mem_of_getElem? hx), Option.bind_some]
  simp only [Option.bind_some]
  unfold PySem.W.ownOf
  rw [c2, if_pos rfl]
  dsimp only
  rw [hl x, hu]
  rfl
end
section
variable {X : GC} {n : Nat} {sc : Scope} {names : List Str}
theorem s_attr {e : Expr} {t : E1} {x : Str} {f : Nat} {pos : Pos} (h : SoundE X n sc names e t) (hx : X.fname[f]? = some x) (hb : ∀ env, attributeBase e x env (eval e env) = eval e env := by exact fun _ => rfl) : SoundE X n sc names (.Attribute e x pos) (pF t f) := fun env A κ P ls σ s Q eo rm S ht => by
  refine Attribute_any_ (h.run eo rm S ht fun κ' σ' s' v u g S' r q => ?_) (by rw [arm_eval_Attribute, hb])
  cases v with
  | ref k a =>
    cases k with
    | inst c =>
      obtain ⟨e1, e2⟩ := r
      obtain ⟨w, hw, q⟩ := ob_ex q
      subst e1
      exact S'.w.getF e2 hx hw fun u' hu' => ⟨κ', σ', w, ⟨g.k, g.t⟩, S'.toks _, hu', q⟩
    | _ => exact q.elim
  | _ => exact q.elim
end
end
section
open Builtin Builtin.ObjectAttr
noncomputable def H.setF (σ : H) (c : Nat) (a : Addr) (f : Nat) (v : V) : H := { σ with fld := fun c' a' f' => if c' = c ∧ a' = a ∧ f' = f then some v else σ.fld c' a' f' }
theorem idx_inj {l : List Str} (hn : l.Nodup) {i j : Nat} {x : Str} (h : l[i]? = some x) (h' : l[j]? = some x) : i = j := by
  obtain ⟨hi, e⟩ := List.getElem?_eq_some_iff.mp h
  obtain ⟨hj, e'⟩ := List.getElem?_eq_some_iff.mp h'
  exact (List.getElem_inj hn).mp (e.trans e'.symm)
section
variable {X : GC} {κ : Km} {P : Addr → Obj → Prop} {env : Env} {names : List Str} {ls : Ls} {σ : H} {s s' : Shared} {n : Nat} {sc : Scope} {A : Around}
theorem ns1_notTup {h : Heap} {a : Addr} {m : Str → Option Value} (N : h.Ns1 a m) : ∀ its, ¬ IsTup h a its := fun its ⟨o, ho, _, k, hd⟩ => by
  obtain ⟨o', es, ep, ho', hd', _⟩ := N
  rw [ho] at ho'; cases ho'; rw [hd] at hd'; cases hd'
theorem Fr0.cell {x : Addr} {kx : Kd} (F : Fr0 X κ P env names ls s.heap) (hx : κ x = some kx) (hT : ∀ its, ¬ IsTup s.heap x its) (hs : Heap.ExtBut x s.heap s'.heap) : Fr0 X κ P env names ls s'.heap :=
  F.keep (fun _ _ e => e) (KeepT.but hs hT) (fun a ha => (F.free a ha).k) (fun a ha => (F.free a ha).p) (fun a o ha e => hs a o (fun q => by have := (F.free a ha).k; rw [q, hx] at this; cases this) e)
theorem St.setF (S : St X κ P env names ls σ s) {c f : Nat} {a : Addr} {x : Str} {v : V} {u : Value} {Q : Unit → Shared → Prop} (h : κ a = some (.inst c)) (hx : X.fname[f]? = some x) (hv : VRel κ s.heap v u)
    (q : ∀ s', KeepT κ s.heap s'.heap → St X κ P env names ls (σ.setF c a f v) s' → Q () s') : wpAny X.M A (setAttr (.ref a) x u) Q no s := by
  obtain ⟨d, od, m, hc, e, hd, I, hm, hl, hr⟩ := S.w.instAt h
  obtain ⟨cd, c1, c2, c3, c4, c5⟩ := X.cls c hc
  have hno := X.fno c hc x (List.mem_of_getElem? hx)
  refine set_plain (K := X.K) S.w.kin I c4 ?_
  have I' : InstAt ({ s with toks := s.toks + 1 } : Shared).heap a (instObj (X.clsA c) d) (X.clsA c) (some od) := I
  refine osa_open (s := { s with toks := s.toks + 1 }) S.w.kin I' c5 (r := none) (by unfold takerIn; rw [hno]; rfl) fun b => ?_
  refine wpAny_bind (wpAny_pure (wpAny_bind (wpAny_bind (wpAny_loadPart I.at_ (wpAny_bind (Looks.here (M := X.M) (s := { s with toks := s.toks + 1 }) (looks_clsIn S.w.kin c1) ?_))))))
  rw [c2]
  refine wpAny_pure (a := some d) (wpAny_bind (wpAny_pure (wpAny_bind (wpAny_nsSet1 (s := { s with toks := s.toks + 1 }) hm fun h' hn hs => ?_))))
  have ir : InstRel X.fname κ s.heap ((σ.setF c a f v).fld c a) (fun y => if y = x then some u else m y) := by
    refine ⟨fun i y hi => ?_, fun y hy => ?_⟩
    · by_cases q : i = f
      · subst q
        rw [hx] at hi; cases hi
        simp only [H.setF, and_self, if_true]
        exact ⟨u, rfl, hv⟩
      · have yx : y ≠ x := fun z => q (idx_inj X.fnd hi (z ▸ hx))
        simp only [H.setF, q, and_false, if_false, yx]
        exact hr.1 i y hi
    · have yx : y ≠ x := fun z => hy (z ▸ List.mem_of_getElem? hx)
      show (if y = x then some u else m y) = none
      rw [if_neg yx]; exact hr.2 y hy
  obtain ⟨o', es', ep', ho', hd', hz'⟩ := hn.count (ns := X.fname) fun y hy => Decidable.byContradiction fun z => hy (ir.2 y z)
  refine wpAny_bind (wpAny_lookBehind ho' (by rw [hd']; exact pastItsLine_dict (by have := len_line X.fsz; exact pd8)) (wpAny_pure ?_))
  show Q () _
  have hT := ns1_notTup hm
  have hs' : Heap.ExtBut d s.heap h' := hs.extBut
  have kt : KeepT κ s.heap h' := KeepT.but hs' hT
  refine q _ kt ⟨S.w.put hd (by simp) hs' (Nat.le_of_eq hs.1.symm) rfl rfl rfl ?_ ?_ (fun _ _ _ _ => rfl) (fun _ _ _ _ => rfl) (fun _ _ _ _ => rfl) (fun _ _ _ _ => rfl), S.f.cell (s := s) (s' := { s with heap := h' }) hd hT hs'⟩
  · rintro b k hb (rfl | ⟨c', rfl, hb'⟩)
    · rw [hd] at hb; cases hb; trivial
    · have : b = a := hb'.trans e.symm
      subst this
      rw [h] at hb; cases hb
      exact ⟨hc, d, e, hd, hs' _ _ (by rw [e]; exact Nat.succ_ne_self d) I.at_, _, hn, ir.mono (fun _ _ z => z) kt⟩
  · intro c' b hb hq
    funext f'
    simp only [H.setF]
    by_cases q : c' = c ∧ b = a ∧ f' = f
    · obtain ⟨rfl, rfl, _⟩ := q
      exact absurd (Or.inr ⟨c', rfl, e⟩) hq
    · rw [if_neg q]
end
end
section
section
variable {X : GC} {κ : Km} {P : Addr → Obj → Prop} {env : Env} {names : List Str} {ls : Ls} {σ : H} {s s' : Shared} {n : Nat} {sc : Scope} {A : Around}
theorem isCell_notSeq {h : Heap} {c : Addr} {v : Option Value} (N : h.IsCell c v) : ∃ o, h.get? c = some o ∧ ∀ xs n, o.data ≠ .seq xs n :=
  let ⟨o, ho, hd⟩ := N; ⟨o, ho, fun _ _ e => by rw [hd] at e; cases e⟩
theorem ns_notSeq {h : Heap} {c : Addr} {m} (N : h.Ns c m) : ∃ o, h.get? c = some o ∧ ∀ xs n, o.data ≠ .seq xs n :=
  let ⟨o, es, ep, ho, hd, _⟩ := N; ⟨o, ho, fun _ _ e => by rw [hd] at e; cases e⟩
theorem cell_ne_ns {h : Heap} {a c : Addr} {m} {v : Option Value} (N : h.Ns a m) (C : h.IsCell c v) : c ≠ a := fun e => by
  obtain ⟨o, es, ep, ho, hd, _⟩ := N
  obtain ⟨o', ho', hd'⟩ := C
  rw [e, ho] at ho'; cases ho'; rw [hd] at hd'; cases hd'
theorem St.store (S : St X κ P env names ls σ s) {i : Nat} {x : Str} {v : V} {u : Value} {Q : Unit → Shared → Prop} (eo : EnvOk env sc) (hx : names[i]? = some x) (hkx : sc.names.lookup x = some .local ∨ sc.names.lookup x = some .cell)
    (hv : VRel κ s.heap v u)
    (q : ∀ s', KeepT κ s.heap s'.heap → St X κ P env names (ls.set i (some v)) σ s' → Q () s') : wpAny X.M A (storeName env x u) Q no s := by
  obtain ⟨m, hm, hl⟩ := S.f.loc
  have hk : env.scope.kind = .function := by rw [eo.scope]; exact eo.kind
  rcases hkx with hkx | hkx
  · have hkx' : env.kindOf x = some .local := by unfold Env.kindOf; rw [eo.scope]; exact hkx
    refine wpAny_storeName_local hkx' hm (fun h' hn hs => ?_) (by rw [hk]; rfl)
    have F := S.f.free env.locals (.inl rfl)
    have kt : KeepT κ s.heap h' := KeepT.non hs.extBut (by rw [F.k]; simp)
    refine q { s with heap := h', toks := s.toks + 1 } kt ⟨S.w.step F.free hs.extBut (Nat.le_of_eq hs.1.symm) rfl rfl, ?_⟩
    refine ⟨fun a ha => ?_, by rw [List.length_set]; exact S.f.len, ⟨_, hn, fun j y w hj hw => ?_⟩, fun y hy => ?_, ?_, ?_⟩
    · have f := S.f.free a ha
      by_cases e : a = env.locals
      · subst e; exact ⟨f.k, f.b, f.p, ns_notSeq hn⟩
      · exact ⟨f.k, f.b, f.p, let ⟨o, ho, z⟩ := f.o; ⟨o, (hs.2 a e).trans ho, z⟩⟩
    · by_cases e : j = i
      · subst e
        rw [hx] at hj; cases hj
        have hlt : j < ls.length := by
          have := (List.getElem?_eq_some_iff.mp hx).1
          rw [S.f.len]; exact this
        rw [List.getElem?_set_self hlt] at hw; cases hw
        exact ⟨u, hv.mono (fun _ _ z => z) kt, .inl ⟨hkx', if_pos rfl⟩⟩
      · rw [List.getElem?_set_ne (Ne.symm e)] at hw
        have yx : y ≠ x := fun z => e (idx_inj S.f.nd hj (z ▸ hx))
        obtain ⟨u', hu', r⟩ := hl j y w hj hw
        refine ⟨u', hu'.mono (fun _ _ z => z) kt, r.imp (fun ⟨a, b⟩ => ⟨a, by show (if y = x then some u else m y) = _; rw [if_neg yx]; exact b⟩) fun ⟨a, c, hc, C⟩ => ⟨a, c, hc, C.sameBut hs (cell_ne_ns hm C)⟩⟩
    · obtain ⟨c, v', hc, C⟩ := S.f.cells y hy
      exact ⟨c, v', hc, C.sameBut hs (cell_ne_ns hm C)⟩
    · exact S.f.nd
    · exact S.f.cap
  · have hkx' : env.kindOf x = some .cell := by unfold Env.kindOf; rw [eo.scope]; exact hkx
    obtain ⟨c, v₀, hc, C⟩ := S.f.cells x hkx'
    refine wpAny_storeName_cell hk hkx' hc C fun h' hn hs => ?_
    have F := S.f.free c (.inr ⟨x, mem_of_look hc⟩)
    have kt : KeepT κ s.heap h' := KeepT.non hs.extBut (by rw [F.k]; simp)
    have hcl' := fun y c => S.f.cap x y c
    refine q { s with heap := h' } kt ⟨S.w.step F.free hs.extBut (Nat.le_of_eq hs.1.symm) rfl rfl, ?_⟩
    refine ⟨fun a ha => ?_, by rw [List.length_set]; exact S.f.len, ⟨m, hm.sameBut hs (Ne.symm (cell_ne_ns hm C)), fun j y w hj hw => ?_⟩, fun y hy => ?_, ?_, ?_⟩
    · have f := S.f.free a ha
      by_cases e : a = c
      · subst e; exact ⟨f.k, f.b, f.p, isCell_notSeq hn⟩
      · exact ⟨f.k, f.b, f.p, let ⟨o, ho, z⟩ := f.o; ⟨o, (hs.2 a e).trans ho, z⟩⟩
    · by_cases e : j = i
      · subst e
        rw [hx] at hj; cases hj
        have hlt : j < ls.length := by
          have := (List.getElem?_eq_some_iff.mp hx).1
          rw [S.f.len]; exact this
        rw [List.getElem?_set_self hlt] at hw; cases hw
        exact ⟨u, hv.mono (fun _ _ z => z) kt, .inr ⟨.inl hkx', c, hc, hn⟩⟩
      · rw [List.getElem?_set_ne (Ne.symm e)] at hw
        have yx : y ≠ x := fun z => e (idx_inj S.f.nd hj (z ▸ hx))
        obtain ⟨u', hu', r⟩ := hl j y w hj hw
        refine ⟨u', hu'.mono (fun _ _ z => z) kt, r.imp id fun ⟨a, c', hc', C'⟩ => ⟨a, c', hc', C'.sameBut hs fun z => yx (hcl' y c hc (z ▸ hc'))⟩⟩
    · by_cases e : y = x
      · subst e; exact ⟨c, _, hc, hn⟩
      · obtain ⟨c', v', hc', C'⟩ := S.f.cells y hy
        exact ⟨c', v', hc', C'.sameBut hs fun z => e (hcl' y c hc (z ▸ hc'))⟩
    · exact S.f.nd
    · exact S.f.cap
end
end
section
abbrev T1 := Ls → H → (Bool → H → Prop) → Prop
inductive PostT (X : GC) (P : Addr → Obj → Prop) (env : Env) (names : List Str) (ls : Ls) (κ : Km) (s : Shared) (Q : Bool → H → Prop) (b : Bool) (s' : Shared) : Prop where
  | mk (κ' : Km) (σ' : H) (g : Go κ κ' s s') (S : St X κ' P env names ls σ' s') (q : Q b σ')
def SoundT (X : GC) (n : Nat) (sc : Scope) (names : List Str) (e : Expr) (t : T1) : Prop :=
  ∀ env A κ P ls σ s Q, EnvOk env sc → Rm n A → St X κ P env names ls σ s → t ls σ Q → wpAny X.M A (isTrue e env (eval e env)) (PostT X P env names ls κ s Q) no s
def bsplit (b : Bool) (p q : Prop) : Prop := (b = true → p) ∧ (b = false → q)
def sNil (ls : Ls) (σ : H) (Q : Fl → Ls → H → Prop) : Prop := Q .next ls σ
def sCons (a b : S1) (ls : Ls) (σ : H) (Q : Fl → Ls → H → Prop) : Prop := a ls σ fun f ls σ => match f with
  | .next => b ls σ Q
  | .ret v => Q (.ret v) ls σ
def sSet (i : Nat) (t : E1) (ls : Ls) (σ : H) (Q : Fl → Ls → H → Prop) : Prop := t ls σ fun v σ => Q .next (ls.set i (some v)) σ
def sRet (t : E1) (ls : Ls) (σ : H) (Q : Fl → Ls → H → Prop) : Prop := t ls σ fun v σ => Q (.ret v) ls σ
def sRet0 (ls : Ls) (σ : H) (Q : Fl → Ls → H → Prop) : Prop := Q (.ret .none) ls σ
def sExpr (t : E1) (ls : Ls) (σ : H) (Q : Fl → Ls → H → Prop) : Prop := t ls σ fun _ σ => Q .next ls σ
def sIf (c : T1) (a b : S1) (ls : Ls) (σ : H) (Q : Fl → Ls → H → Prop) : Prop := c ls σ fun x σ => bsplit x (a ls σ Q) (b ls σ Q)
def sPutF (t o : E1) (f : Nat) (ls : Ls) (σ : H) (Q : Fl → Ls → H → Prop) : Prop := t ls σ fun v σ => o ls σ fun o σ => match o with
  | .ref (.inst c) a => Q .next ls (σ.setF c a f v)
  | _ => False
section
variable {X : GC} {κ : Km} {P : Addr → Obj → Prop} {env : Env} {names : List Str} {ls : Ls} {σ : H} {s s' : Shared} {n : Nat} {sc : Scope} {A : Around}
theorem PostT.from {κ' : Km} {Q : Bool → H → Prop} {b : Bool} {s₁ : Shared} (p : PostT X P env names ls κ' s₁ Q b s') (g : Go κ κ' s s₁) : PostT X P env names ls κ s Q b s' := by
  obtain ⟨k, q, g', S, r⟩ := p; exact ⟨k, q, g.trans g', S, r⟩
theorem PostS.from {κ' : Km} {Q : Fl → Ls → H → Prop} {u : Flow} {s₁ : Shared} (p : PostS X P env names κ' s₁ Q u s') (g : Go κ κ' s s₁) : PostS X P env names κ s Q u s' := by
  obtain ⟨k, q, l, f, g', S, r, z⟩ := p; exact ⟨k, q, l, f, g.trans g', S, r, z⟩
theorem SoundT.run {e : Expr} {t : T1} (h : SoundT X n sc names e t) {Q : Bool → H → Prop} {R : Bool → Shared → Prop} (eo : EnvOk env sc) (rm : Rm n A) (S : St X κ P env names ls σ s) (ht : t ls σ Q)
    (k : ∀ κ' σ' s' b, Go κ κ' s s' → St X κ' P env names ls σ' s' → Q b σ' → R b s') : wpAny X.M A (isTrue e env (eval e env)) R no s :=
  wpAny_mono (h env A κ P ls σ s Q eo rm S ht) (fun b s' ⟨κ', σ', g, S', q⟩ => k κ' σ' s' b g S' q) fun _ _ e => e
theorem b_nil : SoundB X n sc names [] sNil := fun env A κ P ls σ s Q _ _ S q => wpAny_execs_nil ⟨κ, σ, ls, .next, .refl _ _, S, rfl, q⟩
theorem b_cons {st : Stmt} {r : List Stmt} {a b : S1} (ha : SoundS X n sc names st a) (hb : SoundB X n sc names r b) : SoundB X n sc names (st :: r) (sCons a b) := fun env A κ P ls σ s Q eo rm S q => by
  refine wpAny_execs_cons (wpAny_mono (ha env A κ P ls σ s _ eo rm S q) (fun u s' ⟨κ', σ', ls', f, g, S', r, q⟩ => ?_) fun _ _ e => e)
  cases f with
  | next =>
    obtain rfl : u = .next := r
    exact wpAny_mono (hb env A κ' P ls' σ' s' Q eo rm S' q) (fun _ _ p => p.from g) fun _ _ e => e
  | ret v =>
    obtain ⟨w, rfl, hw⟩ := r
    exact ⟨κ', σ', ls', .ret v, g, S', ⟨w, rfl, hw⟩, q⟩
theorem t_set {i : Nat} {x : Str} {px pos : Pos} {e : Expr} {t : E1} (h : SoundE X n sc names e t) (hx : names[i]? = some x) (hk : sc.names.lookup x = some .local ∨ sc.names.lookup x = some .cell) (hs : ∀ env, swapsWith e (some (.Name x px)) pos.line env = pure false := by exact fun _ => rfl) :
    SoundS X n sc names (.Assign [.Name x px] e pos) (sSet i t) := fun env A κ P ls σ s Q eo rm S q => by
  refine wpAny_Assign_Name (h.run eo rm S q fun κ' σ' s' v u g S' r q => ?_) (hs env)
  exact S'.store eo hx hk r fun s'' kt S'' => ⟨κ', σ', _, .next, (g.kt kt), S'', rfl, q⟩
theorem t_ret {e : Expr} {pos : Pos} {t : E1} (h : SoundE X n sc names e t) : SoundS X n sc names (.Return (some e) pos) (sRet t) := fun env A κ P ls σ s Q eo rm S q =>
  wpAny_Return_some (h.run eo rm S q fun κ' σ' s' v u g S' r q => ⟨κ', σ', ls, .ret v, g, S', ⟨u, rfl, r⟩, q⟩)
theorem t_ret0 {pos : Pos} : SoundS X n sc names (.Return none pos) sRet0 := fun env A κ P ls σ s Q eo rm S q =>
  wpAny_Return_none ⟨κ, σ, ls, .ret .none, .refl _ _, S, ⟨.none, rfl, rfl⟩, q⟩
theorem t_expr {e : Expr} {pos : Pos} {t : E1} (h : SoundE X n sc names e t) (hs : ∀ env, swapsWith e none pos.line env = pure false := by exact fun _ => rfl) : SoundS X n sc names (.Expr e pos) (sExpr t) := fun env A κ P ls σ s Q eo rm S q =>
  wpAny_Expr_any (h.run eo rm S q fun κ' σ' s' v u g S' r q => ⟨κ', σ', ls, .next, g, S', rfl, q⟩) (by
    show (env.scope.kind == .module && _) = false
    rw [eo.scope, eo.kind]; rfl) (hs env)
theorem t_if {e : Expr} {a b : List Stmt} {pos : Pos} {c : T1} {ta tb : S1} (hc : SoundT X n sc names e c) (ha : SoundB X n sc names a ta) (hb : SoundB X n sc names b tb) : SoundS X n sc names (.If e a b pos) (sIf c ta tb) := fun env A κ P ls σ s Q eo rm S q => by
  refine wpAny_If (hc.run eo rm S q fun κ' σ' s' x g S' q => ?_)
  cases x with
  | true => exact wpAny_mono (ha env A κ' P ls σ' s' Q eo rm S' (q.1 rfl)) (fun _ _ p => p.from g) fun _ _ e => e
  | false => exact wpAny_mono (hb env A κ' P ls σ' s' Q eo rm S' (q.2 rfl)) (fun _ _ p => p.from g) fun _ _ e => e
theorem t_putF {e o : Expr} {x : Str} {f : Nat} {px pos : Pos} {t t' : E1} (h : SoundE X n sc names e t) (h' : SoundE X n sc names o t') (hx : X.fname[f]? = some x) (hs : ∀ env, swapsWith e (some (.Attribute o x px)) pos.line env = pure false := by exact fun _ => rfl) :
    SoundS X n sc names (.Assign [.Attribute o x px] e pos) (sPutF t t' f) := fun env A κ P ls σ s Q eo rm S q => by
  refine plainObj_wpAny_Assign_Attribute (h.run eo rm S q fun κ₁ σ₁ s₁ v u g₁ S₁ r q => h'.run eo rm S₁ q fun κ₂ σ₂ s₂ v' u' g₂ S₂ r' q => ?_) (hs env)
  cases v' with
  | ref k a =>
    cases k with
    | inst c =>
      obtain ⟨rfl, hk⟩ := r'
      refine S₂.setF hk hx (g₂.v r) fun s₃ kt S₃ => ⟨κ₂, _, ls, .next, ?_, S₃, rfl, q⟩
      have g := g₁.trans g₂
      exact g.kt kt
    | _ => exact q.elim
  | _ => exact q.elim
end
end
section
open PyProof.V PySem.Spec
noncomputable def H.newL (σ : H) (k : Nat) (a : Addr) (l : List V) : H := { σ with lst := fun k' a' => if k' = k ∧ a' = a then l else σ.lst k' a', nxt := a + 1 }
noncomputable def H.setL (σ : H) (k : Nat) (a : Addr) (l : List V) : H := { σ with lst := fun k' a' => if k' = k ∧ a' = a then l else σ.lst k' a' }
section
variable {X : GC} {κ : Km} {P : Addr → Obj → Prop} {env : Env} {names : List Str} {ls : Ls} {σ : H} {s s' : Shared} {n : Nat} {sc : Scope} {A : Around}
theorem Fr0.fresh {k : Kd} {a : Addr} (F : Fr0 X κ P env names ls s.heap) (ha : s.heap.objs.size ≤ a) (hs : ∀ a o, s.heap.get? a = some o → s'.heap.get? a = some o) (hm : ∀ b j, κ b = some j → upd κ a k b = some j) : Fr0 X (upd κ a k) P env names ls s'.heap :=
  F.keep hm (KeepT.of hs) (fun b hb => by
    have f := F.free b hb
    obtain ⟨o, ho, _⟩ := f.o
    rw [upd_ne]; exact f.k
    intro q; rw [q] at ho; exact absurd (Heap.lt_size ho) (Nat.not_lt.mpr ha)) (fun b hb => (F.free b hb).p) (fun b o hb e => hs b o e)
theorem St.newL (S : St X κ P env names ls σ s) {k : Nat} {l : List V} {vs : Array Value} (r : VRels κ s.heap l vs.toList) :
    ∃ κ', Go κ κ' s { s with heap := s.heap.push { cls := .type "list", data := .seq vs } } ∧ St X κ' P env names ls (σ.newL k s.heap.objs.size l) { s with heap := s.heap.push { cls := .type "list", data := .seq vs } } ∧ κ' s.heap.objs.size = some (.lst k) := by
  have hs : ∀ a o, s.heap.get? a = some o → (s.heap.push { cls := .type "list", data := .seq vs }).get? a = some o := fun a o e => Heap.get?_push_of_some _ e
  have kt : KeepT κ _ _ := KeepT.of hs
  obtain ⟨W, hm⟩ := S.w.alloc (s' := { s with heap := s.heap.push { cls := .type "list", data := .seq vs } }) (k := .lst k) (a := s.heap.objs.size) (σ' := σ.newL k s.heap.objs.size l) (Nat.le_refl _) hs (by rw [Heap.size_push]; exact Nat.lt_succ_self _) rfl rfl rfl
    ⟨vs, 0, Heap.get?_push_size _ rfl, by
      have hm : ∀ b j, κ b = some j → upd κ s.heap.objs.size (.lst k) b = some j := fun b j e => by
        rw [upd_ne]; exact e
        intro q; rw [q, (S.w.fresh (Nat.le_refl _)).k] at e; cases e
      show VRels _ _ (if k = k ∧ s.heap.objs.size = s.heap.objs.size then l else _) _
      rw [if_pos ⟨rfl, rfl⟩]
      exact r.mono hm kt⟩ (fun _ _ _ => rfl) (fun c b hb => by show (if c = k ∧ b = s.heap.objs.size then l else σ.lst c b) = _; rw [if_neg fun z => hb z.2]) (fun _ _ _ => rfl) (fun _ _ _ => rfl) (fun _ _ _ => rfl)
  exact ⟨_, ⟨hm, kt⟩, ⟨W, S.f.fresh (s' := { s with heap := s.heap.push { cls := .type "list", data := .seq vs } }) (Nat.le_refl _) hs hm⟩, upd_self _ _ _⟩
theorem Wf.newTup (W : Wf X κ P σ s) {a : Addr} {its : Array Value} (ha : s.heap.objs.size ≤ a) (hs : ∀ a o, s.heap.get? a = some o → s'.heap.get? a = some o) (hz : s.heap.objs.size ≤ s'.heap.objs.size) (hg : s'.gens = s.gens) (ho : s'.os = s.os) (ht : IsTup s'.heap a its) :
    Wf X (upd κ a .tup) P σ s' ∧ ∀ b j, κ b = some j → upd κ a .tup b = some j := by
  have F := W.fresh ha
  have mono : ∀ b j, κ b = some j → upd κ a .tup b = some j := fun b j e => by
    rw [upd_ne]; exact e
    intro q; rw [q, F.k] at e; cases e
  refine ⟨⟨fun b o e => hs b o (W.base b o e), fun b o e => hs b o (W.prot b o e), fun b j e => ?_, fun b j o e q => ?_, fun b j e hj => ?_, Nat.le_trans W.size hz, fun b j e => ?_, hg.trans W.gens, ho.trans W.os, Nat.le_trans W.szB hz⟩, mono⟩
  · by_cases q : b = a
    · rw [q]; exact Nat.le_trans W.szB ha
    · rw [upd_ne q] at e; exact W.apZ b j e
  · by_cases z : b = a
    · rw [z] at q; exact F.p o q
    · rw [upd_ne z] at e; exact W.apP b j o e q
  · by_cases q : b = a
    · subst q; rw [upd_self] at e; cases e; exact absurd rfl hj
    · rw [upd_ne q] at e; exact W.low b j e hj
  · by_cases q : b = a
    · subst q; rw [upd_self] at e; cases e; exact ⟨upd_self _ _ _, its, ht⟩
    · rw [upd_ne q] at e
      refine (W.cell b j e).ext mono (extBut_size hs a) (KeepT.of hs) ?_ (fun c _ => rfl) (fun c _ => rfl) (fun c _ => rfl) (fun c _ => rfl) (fun c _ => rfl)
      rintro (z | ⟨c, rfl, z⟩)
      · exact q z
      · have := W.lt e
        have z' : b = a + 1 := z
        rw [z'] at this
        exact absurd (Nat.lt_of_lt_of_le this ha) (by exact Nat.not_lt.mpr (Nat.le_succ a))
theorem St.newTup (S : St X κ P env names ls σ s) {a : Addr} {its : Array Value} (ha : s.heap.objs.size ≤ a) (hs : ∀ a o, s.heap.get? a = some o → s'.heap.get? a = some o) (hz : s.heap.objs.size ≤ s'.heap.objs.size) (hg : s'.gens = s.gens) (ho : s'.os = s.os) (ht : IsTup s'.heap a its) :
    ∃ κ', Go κ κ' s s' ∧ St X κ' P env names ls σ s' ∧ TupAt κ' s'.heap a its := by
  obtain ⟨W, hm⟩ := S.w.newTup (s' := s') ha hs hz hg ho ht
  exact ⟨_, ⟨hm, KeepT.of hs⟩, ⟨W, S.f.fresh (s' := s') ha hs hm⟩, upd_self _ _ _, ht⟩
theorem St.setL (S : St X κ P env names ls σ s) {k : Nat} {a : Addr} {l : List V} {vs : Array Value} {m : Nat} (ha : κ a = some (.lst k)) (r : VRels κ s.heap l vs.toList) (hsb : Heap.SameBut a s.heap s'.heap) (ho : s'.heap.get? a = some { cls := .type "list", data := .seq vs m })
    (hg : s'.gens = s.gens) (hos : s'.os = s.os) : KeepT κ s.heap s'.heap ∧ St X κ P env names ls (σ.setL k a l) s' := by
  have hT : ∀ its, ¬ IsTup s.heap a its := fun its ⟨o, ho, hc, _⟩ => by
    obtain ⟨vs', n', ho', _⟩ := S.w.cell a _ ha
    rw [ho] at ho'; cases ho'; exact absurd hc (by simp)
  have kt : KeepT κ s.heap s'.heap := KeepT.but hsb.extBut hT
  refine ⟨kt, S.w.put ha (by simp) hsb.extBut (Nat.le_of_eq hsb.1.symm) hg hos rfl ?_ (fun _ _ _ _ => rfl) (fun c b hb hn => by show (if c = k ∧ b = a then l else σ.lst c b) = _; rw [if_neg fun z => hn z.2]) (fun _ _ _ _ => rfl) (fun _ _ _ _ => rfl) (fun _ _ _ _ => rfl), S.f.cell ha hT hsb.extBut⟩
  rintro b k' hb (rfl | ⟨c, rfl, hb'⟩)
  · rw [ha] at hb; cases hb
    refine ⟨vs, m, ho, ?_⟩
    show VRels _ _ (if k = k ∧ b = b then l else _) _
    rw [if_pos ⟨rfl, rfl⟩]; exact r.mono (fun _ _ z => z) kt
  · obtain ⟨_, d, e, hd, _⟩ := S.w.cell b _ hb
    have : d = a := Nat.succ.inj (e.symm.trans hb')
    rw [this, ha] at hd; cases hd
end
def OpOk (X : GC) (op : Operator) (f : V → V → H → (V → H → Prop) → Prop) : Prop :=
  ∀ env names A κ P ls σ s Q n a b u1 u2, Rm n A → St X κ P env names ls σ s → VRel κ s.heap a u1 → VRel κ s.heap b u2 → f a b σ Q → wpAny X.M A (binaryOp op u1 u2) (PostE X P env names ls κ s Q) no s
def pBin (f : V → V → H → (V → H → Prop) → Prop) (t1 t2 : E1) (ls : Ls) (σ : H) (Q : V → H → Prop) : Prop := t1 ls σ fun a σ => t2 ls σ fun b σ => f a b σ Q
theorem s_bin {X : GC} {n : Nat} {sc : Scope} {names : List Str} {op : Operator} {f t1 t2} {l r : Expr} {pos : Pos} (hf : OpOk X op f) (h1 : SoundE X n sc names l t1) (h2 : SoundE X n sc names r t2) : SoundE X n sc names (.BinOp l op r pos) (pBin f t1 t2) := fun env A κ P ls σ s Q eo rm S q =>
  wpAny_BinOp (h1.run eo rm S q fun κ₁ σ₁ s₁ a u1 g₁ S₁ r₁ q => h2.run eo rm S₁ q fun κ₂ σ₂ s₂ b u2 g₂ S₂ r₂ q =>
    wpAny_mono (hf env names A κ₂ P ls σ₂ s₂ Q n a b u1 u2 rm S₂ (g₂.v r₁) r₂ q) (fun _ _ z => z.from (g₁.trans g₂)) fun _ _ e => e)
def fAdd (a b : V) (σ : H) (Q : V → H → Prop) : Prop := match a with
  | .int i => onI b fun j => Q (.int (i + j)) σ
  | .str x => onS b fun y => x.length + y.length ≤ 1000 ∧ Q (.str (x ++ y)) σ
  | .ref k a => onR b fun k' b => match k with
    | .lst k => match k' with
      | .lst k' => (σ.lst k a).length + (σ.lst k' b).length ≤ 1000 ∧ ∀ c, σ.nxt ≤ c → Q (.ref (.lst k) c) (σ.newL k c (σ.lst k a ++ σ.lst k' b))
      | _ => False
    | _ => False
  | _ => False
def fSub (a b : V) (σ : H) (Q : V → H → Prop) : Prop := onI a fun i => onI b fun j => Q (.int (i - j)) σ
def fMul (a b : V) (σ : H) (Q : V → H → Prop) : Prop := onI a fun i => onI b fun j => (0 ≤ i ∧ i < 2 ^ 60 ∧ 0 ≤ j ∧ j < 2 ^ 60) ∧ Q (.int (i * j)) σ
def fDiv (a b : V) (σ : H) (Q : V → H → Prop) : Prop := onI a fun i => onI b fun j => (0 ≤ i ∧ i < 2 ^ 60 ∧ 0 < j ∧ j < 2 ^ 60) ∧ Q (.int (i.fdiv j)) σ
def fMod (a b : V) (σ : H) (Q : V → H → Prop) : Prop := onI a fun i => onI b fun j => j ≠ 0 ∧ Q (.int (i.fmod j)) σ
def fAnd (a b : V) (σ : H) (Q : V → H → Prop) : Prop := onI a fun i => onI b fun j => Q (.int (Builtin.bitAnd i j)) σ
section
variable {X : GC}
theorem o_sub : OpOk X .Sub fSub := fun env names A κ P ls σ s Q n a b u1 u2 rm S r1 r2 q => by
  replace q := onI_ex q; obtain ⟨i, rfl, q⟩ := q; replace q := onI_ex q; obtain ⟨j, rfl, q⟩ := q; obtain ⟨t, rfl⟩ := r1; obtain ⟨u, rfl⟩ := r2
  exact sub_int (S.here (v := .int _) (.refl _) (S.toks _) ⟨_, rfl⟩ q)
theorem o_and : OpOk X .BitAnd fAnd := fun env names A κ P ls σ s Q n a b u1 u2 rm S r1 r2 q => by
  replace q := onI_ex q; obtain ⟨i, rfl, q⟩ := q; replace q := onI_ex q; obtain ⟨j, rfl, q⟩ := q; obtain ⟨t, rfl⟩ := r1; obtain ⟨u, rfl⟩ := r2
  exact and_int (S.here (v := .int _) (.refl _) (S.toks _) ⟨_, rfl⟩ q)
theorem o_mod : OpOk X .Mod fMod := fun env names A κ P ls σ s Q n a b u1 u2 rm S r1 r2 q => by
  replace q := onI_ex q; obtain ⟨i, rfl, q⟩ := q; replace q := onI_ex q; obtain ⟨j, rfl, q⟩ := q; obtain ⟨t, rfl⟩ := r1; obtain ⟨u, rfl⟩ := r2
  exact mod_int' q.1 (S.here (v := .int _) (.refl _) (S.toks _) ⟨_, rfl⟩ q.2)
theorem digits_small {b : Int} (h0 : 0 ≤ b) (h : b < 2 ^ 60) : (if (b == 0) = true then 0 else b.natAbs.log2 / 30 + 1) ≤ 300 := by
  split
  · exact Nat.zero_le _
  · rename_i hb
    have : b.natAbs.log2 < 60 := by
      refine (Nat.log2_lt (by intro e; exact hb (by simp [Int.natAbs_eq_zero.mp e]))).mpr ?_
      omega
    omega
theorem div_ok {a b : Int} (h0 : 0 ≤ b) (h : b < 2 ^ 60) : Builtin.divisionGoesByPylong a b = false := by
  have := digits_small h0 h
  unfold Builtin.divisionGoesByPylong
  simp only [Bool.and_eq_false_iff, decide_eq_false_iff_not]
  left; omega
theorem o_div : OpOk X .FloorDiv fDiv := fun env names A κ P ls σ s Q n a b u1 u2 rm S r1 r2 q => by
  replace q := onI_ex q; obtain ⟨i, rfl, q⟩ := q; replace q := onI_ex q; obtain ⟨j, rfl, q⟩ := q; obtain ⟨t, rfl⟩ := r1; obtain ⟨u, rfl⟩ := r2
  obtain ⟨⟨h1, h2, h3, h4⟩, q⟩ := q
  exact floordiv_int (by omega) (S.here (v := .int _) (.refl _) (S.toks _) ⟨_, rfl⟩ q) (.inl (div_ok (Int.le_of_lt h3) h4))
theorem o_mul : OpOk X .Mult fMul := fun env names A κ P ls σ s Q n a b u1 u2 rm S r1 r2 q => by
  replace q := onI_ex q; obtain ⟨i, rfl, q⟩ := q; replace q := onI_ex q; obtain ⟨j, rfl, q⟩ := q; obtain ⟨t, rfl⟩ := r1; obtain ⟨u, rfl⟩ := r2
  obtain ⟨⟨h1, h2, h3, h4⟩, q⟩ := q
  exact mul_int (S.here (v := .int _) (.refl _) (S.toks _) ⟨_, rfl⟩ q) (PySem.IntMulOk.of_right (PySem.intBits_le_64 (by omega) (by omega)))
theorem o_add : OpOk X .Add fAdd := fun env names A κ P ls σ s Q n a b u1 u2 rm S r1 r2 q => by
  cases a <;> first | exact q.elim | skip
  · replace q := onI_ex q; obtain ⟨j, rfl, q⟩ := q; obtain ⟨t, rfl⟩ := r1; obtain ⟨u, rfl⟩ := r2
    exact add_int (S.here (v := .int _) (.refl _) (S.toks _) ⟨_, rfl⟩ q)
  · replace q := onS_ex q; obtain ⟨j, rfl, q⟩ := q; obtain ⟨t, rfl⟩ := r1; obtain ⟨u, rfl⟩ := r2
    exact add_str (fun t' tk => S.here (v := .str _) (.refl _) (S.toks _) ⟨_, rfl⟩ q.2) (by rw [sizeLine_eq]; exact Nat.le_trans q.1 (by decide))
  · rename_i k x
    replace q := onR_ex q; obtain ⟨k', y, rfl, q⟩ := q
    cases k <;> first | exact q.elim | skip
    cases k' <;> first | exact q.elim | skip
    obtain ⟨rfl, h1⟩ := r1; obtain ⟨rfl, h2⟩ := r2
    obtain ⟨v1, n1, e1, w1⟩ := S.w.cell _ _ h1
    obtain ⟨v2, n2, e2, w2⟩ := S.w.cell _ _ h2
    have l1 := w1.length
    have l2 := w2.length
    have l3 := q.1
    rw [l1, l2] at l3
    refine PySem.P.add_list e1 e2 ?_ (by rw [sizeLine_eq]; exact Nat.le_trans l3 (by decide))
    obtain ⟨κ', g, S', hk⟩ := S.newL (vs := v1 ++ v2) (l := _ ++ _) (by rw [Array.toList_append]; exact w1.append w2)
    exact ⟨κ', _, .ref _ _, g, S', ⟨rfl, hk⟩, q.2 _ S.w.size⟩
end
inductive PostC (X : GC) (κ : Km) (P : Addr → Obj → Prop) (env : Env) (names : List Str) (ls : Ls) (σ : H) (s : Shared) (Q : Bool → H → Prop) (r : Value) (s' : Shared) : Prop where
  | mk (b : Bool) (e : r = .bool b) (t : KeepT κ s.heap s'.heap) (S : St X κ P env names ls σ s') (q : Q b σ)
def CmpOk (X : GC) (op : CmpOp) (f : V → V → H → (Bool → H → Prop) → Prop) : Prop :=
  ∀ env names A κ P ls σ s Q n a b u1 u2, Rm n A → St X κ P env names ls σ s → VRel κ s.heap a u1 → VRel κ s.heap b u2 → f a b σ Q →
    wpAny X.M A (compareOp op u1 u2) (PostC X κ P env names ls σ s Q) no s
def fLt (a b : V) (σ : H) (Q : Bool → H → Prop) : Prop := onI a fun i => onI b fun j => Q (decide (i < j)) σ
def fLe (a b : V) (σ : H) (Q : Bool → H → Prop) : Prop := onI a fun i => onI b fun j => Q (decide (i ≤ j)) σ
def fGt (a b : V) (σ : H) (Q : Bool → H → Prop) : Prop := onI a fun i => onI b fun j => Q (decide (j < i)) σ
def fGe (a b : V) (σ : H) (Q : Bool → H → Prop) : Prop := onI a fun i => onI b fun j => Q (decide (j ≤ i)) σ
def fIs (a b : V) (σ : H) (Q : Bool → H → Prop) : Prop := match b with | .none => Q a.isN σ | _ => False
def fIsNot (a b : V) (σ : H) (Q : Bool → H → Prop) : Prop := match b with | .none => Q (!a.isN) σ | _ => False
def pCmp (f : V → V → H → (Bool → H → Prop) → Prop) (t1 t2 : E1) (ls : Ls) (σ : H) (Q : V → H → Prop) : Prop := t1 ls σ fun a σ => t2 ls σ fun b σ => f a b σ fun x σ => Q (.bool x) σ
def tCmp (f : V → V → H → (Bool → H → Prop) → Prop) (t1 t2 : E1) (ls : Ls) (σ : H) (Q : Bool → H → Prop) : Prop := t1 ls σ fun a σ => t2 ls σ fun b σ => f a b σ Q
section
variable {X : GC} {n : Nat} {sc : Scope} {names : List Str} {op : CmpOp} {f : V → V → H → (Bool → H → Prop) → Prop} {t1 t2 : E1} {l r : Expr} {pos : Pos}
theorem t_cmp (hf : CmpOk X op f) (h1 : SoundE X n sc names l t1) (h2 : SoundE X n sc names r t2) (hm : behindInMarks op r = false) : SoundT X n sc names (.Compare l [op] [r] pos) (tCmp f t1 t2) := fun env A κ P ls σ s Q eo rm S q =>
  wpAny_isTrue_Compare1 (h1.run eo rm S q fun κ₁ σ₁ s₁ a u1 g₁ S₁ r₁ q => h2.run eo rm S₁ q fun κ₂ σ₂ s₂ b u2 g₂ S₂ r₂ q =>
    wpAny_mono (hf env names A κ₂ P ls σ₂ s₂ Q n a b u1 u2 rm S₂ (g₂.v r₁) r₂ q) (fun _ s₃ ⟨x, e, kt, S₃, q⟩ => by subst e; exact wpAny_truthy_bool ⟨κ₂, σ₂, ((g₁.trans g₂).kt kt), S₃, q⟩) fun _ _ e => e) hm
end
section
variable {X : GC}
theorem c_lt : CmpOk X .Lt fLt := fun env names A κ P ls σ s Q n a b u1 u2 rm S r1 r2 q => by
  replace q := onI_ex q; obtain ⟨i, rfl, q⟩ := q; replace q := onI_ex q; obtain ⟨j, rfl, q⟩ := q; obtain ⟨t, rfl⟩ := r1; obtain ⟨u, rfl⟩ := r2
  exact lt_int ⟨_, rfl, .refl _, S, q⟩
theorem c_le : CmpOk X .LtE fLe := fun env names A κ P ls σ s Q n a b u1 u2 rm S r1 r2 q => by
  replace q := onI_ex q; obtain ⟨i, rfl, q⟩ := q; replace q := onI_ex q; obtain ⟨j, rfl, q⟩ := q; obtain ⟨t, rfl⟩ := r1; obtain ⟨u, rfl⟩ := r2
  exact le_int ⟨_, rfl, .refl _, S, q⟩
theorem c_gt : CmpOk X .Gt fGt := fun env names A κ P ls σ s Q n a b u1 u2 rm S r1 r2 q => by
  replace q := onI_ex q; obtain ⟨i, rfl, q⟩ := q; replace q := onI_ex q; obtain ⟨j, rfl, q⟩ := q; obtain ⟨t, rfl⟩ := r1; obtain ⟨u, rfl⟩ := r2
  exact gt_int ⟨_, rfl, .refl _, S, q⟩
theorem c_ge : CmpOk X .GtE fGe := fun env names A κ P ls σ s Q n a b u1 u2 rm S r1 r2 q => by
  replace q := onI_ex q; obtain ⟨i, rfl, q⟩ := q; replace q := onI_ex q; obtain ⟨j, rfl, q⟩ := q; obtain ⟨t, rfl⟩ := r1; obtain ⟨u, rfl⟩ := r2
  exact ge_int ⟨_, rfl, .refl _, S, q⟩
theorem isNone_of {κ : Km} {h : Heap} {v : V} {u : Value} (r : VRel κ h v u) : plainIs u .none = true ∧ (u == .none) = v.isN := by
  cases v with
  | none => rw [show u = .none from r]; exact ⟨rfl, rfl⟩
  | bool b => rw [show u = .bool b from r]; exact ⟨rfl, rfl⟩
  | int i => obtain ⟨t, rfl⟩ := r; exact ⟨rfl, rfl⟩
  | str i => obtain ⟨t, rfl⟩ := r; exact ⟨rfl, rfl⟩
  | p2 a b => obtain ⟨x, _, _, rfl, _⟩ := r; exact ⟨rfl, rfl⟩
  | p3 a b c => obtain ⟨x, _, _, _, rfl, _⟩ := r; exact ⟨rfl, rfl⟩
  | p4 a b c d => obtain ⟨x, _, _, _, _, rfl, _⟩ := r; exact ⟨rfl, rfl⟩
  | ref k a => rw [r.1]; exact ⟨rfl, rfl⟩
  | ext a => rw [show u = .ref a from r]; exact ⟨rfl, rfl⟩
theorem c_is : CmpOk X .Is fIs := fun env names A κ P ls σ s Q n a b u1 u2 rm S r1 r2 q => by
  unfold fIs at q; cases b <;> first | exact q.elim | skip
  · obtain rfl : u2 = .none := r2
    obtain ⟨e1, e2⟩ := isNone_of r1
    exact wpAny_is_plain e1 ⟨_, rfl, .refl _, S, e2 ▸ q⟩
theorem c_isNot : CmpOk X .IsNot fIsNot := fun env names A κ P ls σ s Q n a b u1 u2 rm S r1 r2 q => by
  unfold fIsNot at q; cases b <;> first | exact q.elim | skip
  · obtain rfl : u2 = .none := r2
    obtain ⟨e1, e2⟩ := isNone_of r1
    exact wpAny_isNot_plain e1 ⟨_, rfl, .refl _, S, by rw [e2]; exact q⟩
end
end
section
open PyProof.V PySem.Spec
section
variable {X : GC} {n : Nat} {sc : Scope} {names : List Str} {op : CmpOp} {f : V → V → H → (Bool → H → Prop) → Prop} {t1 t2 : E1} {l r : Expr} {pos : Pos}
theorem s_cmp (hf : CmpOk X op f) (h1 : SoundE X n sc names l t1) (h2 : SoundE X n sc names r t2) (hm : behindInMarks op r = false) : SoundE X n sc names (.Compare l [op] [r] pos) (pCmp f t1 t2) := fun env A κ P ls σ s Q eo rm S q => by
  rw [eval_Compare1, markedBehindIn_of_false hm]
  exact wpAny_bind (h1.run eo rm S q fun κ₁ σ₁ s₁ a u1 g₁ S₁ r₁ q => wpAny_bind (wpAny_holding (h2.run eo rm S₁ q fun κ₂ σ₂ s₂ b u2 g₂ S₂ r₂ q => wpAny_bind (wpAny_standAt (wpAny_operating
    (wpAny_mono (hf env names A κ₂ P ls σ₂ s₂ _ n a b u1 u2 rm S₂ (g₂.v r₁) r₂ q) (fun _ s₃ ⟨x, e, kt, S₃, q⟩ => by subst e; exact ⟨κ₂, σ₂, .bool x, ((g₁.trans g₂).kt kt), S₃, rfl, q⟩) fun _ _ e => e))))))
def tCmp2 (f g : V → V → H → (Bool → H → Prop) → Prop) (t1 t2 t3 : E1) (ls : Ls) (σ : H) (Q : Bool → H → Prop) : Prop := t1 ls σ fun a σ => t2 ls σ fun b σ => f a b σ fun x σ => bsplit x (t3 ls σ fun c σ => g b c σ Q) (Q false σ)
theorem t_cmp2 {op' : CmpOp} {g : V → V → H → (Bool → H → Prop) → Prop} {t3 : E1} {r' : Expr} (hf : CmpOk X op f) (hg : CmpOk X op' g) (h1 : SoundE X n sc names l t1) (h2 : SoundE X n sc names r t2) (h3 : SoundE X n sc names r' t3) (hm : lastMarks [op, op'] [r, r'] = false) :
    SoundT X n sc names (.Compare l [op, op'] [r, r'] pos) (tCmp2 f g t1 t2 t3) := fun env A κ P ls σ s Q eo rm S q => by
  refine isTrue_chain (h1.run eo rm S q fun κ₁ σ₁ s₁ a u1 g₁ S₁ r₁ q => ?_) hm
  show wpAny _ _ (testChain pos u1 (op :: [op']) (eval r env :: [eval r' env])) _ _ _
  unfold testChain
  refine wpAny_bind (wpAny_holding (h2.run eo rm S₁ q fun κ₂ σ₂ s₂ b u2 g₂ S₂ r₂ q => wpAny_bind (wpAny_standAt ?_)))
  refine wpAny_bind (wpAny_holding (wpAny_mono (hf env names A κ₂ P ls σ₂ s₂ _ n a b u1 u2 rm S₂ (g₂.v r₁) r₂ q) (fun _ s₃ ⟨x, e, kt, S₃, q⟩ => ?_) fun _ _ e => e))
  subst e
  have G₃ : Go κ κ₂ s s₃ := ((g₁.trans g₂).kt kt)
  refine wpAny_bind (wpAny_release (wpAny_bind (wpAny_holding (wpAny_truthy_bool ?_))))
  cases x with
  | false => exact wpAny_pure ⟨κ₂, σ₂, G₃, S₃, q.2 rfl⟩
  | true =>
    rw [if_pos rfl]
    show wpAny _ _ (testChain pos u2 [op'] [eval r' env]) _ _ _
    unfold testChain
    refine wpAny_bind (wpAny_holding (h3.run eo rm S₃ (q.1 rfl) fun κ₄ σ₄ s₄ c u3 g₄ S₄ r₄ q => wpAny_bind (wpAny_standAt (wpAny_bind (wpAny_operating ?_)))))
    have rb : VRel κ₂ s₃.heap b u2 := r₂.mono (fun _ _ z => z) kt
    refine wpAny_mono (hg env names A κ₄ P ls σ₄ s₄ _ n b c u2 u3 rm S₄ (g₄.v rb) r₄ q) (fun _ s₅ ⟨y, e, kt5, S₅, q⟩ => ?_) fun _ _ e => e
    subst e
    exact wpAny_holding (wpAny_truthy_bool ⟨κ₄, σ₄, ((G₃.trans g₄).kt kt5), S₅, q⟩)
end
def vtrue (v : V) (Q : Bool → Prop) : Prop := match v with | .bool b => Q b | .int i => Q (decide (i ≠ 0)) | _ => False
def tVal (t : E1) (ls : Ls) (σ : H) (Q : Bool → H → Prop) : Prop := t ls σ fun v σ => vtrue v fun b => Q b σ
def tNot (t : T1) (ls : Ls) (σ : H) (Q : Bool → H → Prop) : Prop := t ls σ fun b σ => Q (!b) σ
def tAnd : List T1 → Ls → H → (Bool → H → Prop) → Prop
  | [], _, σ, Q => Q true σ
  | t :: r, ls, σ, Q => t ls σ fun b σ => bsplit b (tAnd r ls σ Q) (Q false σ)
def tOr : List T1 → Ls → H → (Bool → H → Prop) → Prop
  | [], _, σ, Q => Q false σ
  | t :: r, ls, σ, Q => t ls σ fun b σ => bsplit b (Q true σ) (tOr r ls σ Q)
def pIf (c : T1) (a b : E1) (ls : Ls) (σ : H) (Q : V → H → Prop) : Prop := c ls σ fun x σ => bsplit x (a ls σ Q) (b ls σ Q)
def pNot (t : E1) (ls : Ls) (σ : H) (Q : V → H → Prop) : Prop := t ls σ fun v σ => vtrue v fun b => Q (.bool (!b)) σ
def pOr (a : E1) (b : E1) (ls : Ls) (σ : H) (Q : V → H → Prop) : Prop := a ls σ fun v σ => vtrue v fun x => bsplit x (Q v σ) (b ls σ Q)
def pAnd (a : E1) (b : E1) (ls : Ls) (σ : H) (Q : V → H → Prop) : Prop := a ls σ fun v σ => vtrue v fun x => bsplit x (b ls σ Q) (Q v σ)
section
variable {X : GC} {n : Nat} {sc : Scope} {names : List Str} {pos : Pos}
theorem vtrue_ok {κ : Km} {s : Shared} {v : V} {u : Value} {A : Around} {Q : Bool → Shared → Prop} {R : Bool → Prop} (r : VRel κ s.heap v u) (h : vtrue v R) (k : ∀ b, R b → Q b s) : wpAny X.M A (truthy u) Q no s := by
  cases v with
  | bool b => obtain rfl : u = .bool b := r; exact wpAny_truthy_bool (k _ h)
  | int i => obtain ⟨t, rfl⟩ := r; exact PySem.P.truthy_int (k _ (by have h' : R (decide (i ≠ 0)) := h; have e : (i != 0) = decide (i ≠ 0) := by by_cases z : i = 0 <;> simp [z]
                                                                     rw [e]; exact h'))
  | _ => exact h.elim
theorem t_val {e : Expr} {t : E1} (h : SoundE X n sc names e t) (hp : ∀ env whole, PySem.isTrue e env whole = (do let v ← whole; standAt e.pos; holding [v] (truthy v)) := by exact fun _ _ => rfl) : SoundT X n sc names e (tVal t) := fun env A κ P ls σ s Q eo rm S q =>
  isTrue_plain (h.run eo rm S q fun κ' σ' s' v u g S' r q => vtrue_ok r q fun b q => ⟨κ', σ', g, S', q⟩) (hp _ _)
theorem t_not {e : Expr} {t : T1} (h : SoundT X n sc names e t) : SoundT X n sc names (.UnaryOp .Not e pos) (tNot t) := fun env A κ P ls σ s Q eo rm S q =>
  isTrue_not (h.run eo rm S q fun κ' σ' s' b g S' q => ⟨κ', σ', g, S', q⟩)
inductive SoundTs (X : GC) (n : Nat) (sc : Scope) (names : List Str) : List Expr → List T1 → Prop
  | nil : SoundTs X n sc names [] []
  | cons {e t es ts} : SoundT X n sc names e t → SoundTs X n sc names es ts → SoundTs X n sc names (e :: es) (t :: ts)
theorem t_and {es : List Expr} {ts : List T1} (h : SoundTs X n sc names es ts) : SoundT X n sc names (.BoolOp .And es pos) (tAnd ts) := by
  induction h with
  | nil => exact fun env A κ P ls σ s Q eo rm S q => isTrue_and_nil ⟨κ, σ, .refl _ _, S, q⟩
  | cons h _ ih => exact fun env A κ P ls σ s Q eo rm S q => isTrue_and (h.run eo rm S q fun κ' σ' s' b g S' q => by
      cases b with
      | false => exact ⟨κ', σ', g, S', q.2 rfl⟩
      | true => exact wpAny_mono (ih env A κ' P ls σ' s' Q eo rm S' (q.1 rfl)) (fun _ _ p => p.from g) fun _ _ e => e)
theorem t_or {es : List Expr} {ts : List T1} (h : SoundTs X n sc names es ts) : SoundT X n sc names (.BoolOp .Or es pos) (tOr ts) := by
  induction h with
  | nil => exact fun env A κ P ls σ s Q eo rm S q => isTrue_or_nil ⟨κ, σ, .refl _ _, S, q⟩
  | cons h _ ih => exact fun env A κ P ls σ s Q eo rm S q => isTrue_or (h.run eo rm S q fun κ' σ' s' b g S' q => by
      cases b with
      | true => exact ⟨κ', σ', g, S', q.1 rfl⟩
      | false => exact wpAny_mono (ih env A κ' P ls σ' s' Q eo rm S' (q.2 rfl)) (fun _ _ p => p.from g) fun _ _ e => e)
theorem s_if {e a b : Expr} {c : T1} {ta tb : E1} (hc : SoundT X n sc names e c) (ha : SoundE X n sc names a ta) (hb : SoundE X n sc names b tb) : SoundE X n sc names (.IfExp e a b pos) (pIf c ta tb) := fun env A κ P ls σ s Q eo rm S q => by
  refine wpAny_IfExp (hc.run eo rm S q fun κ' σ' s' x g S' q => ?_)
  cases x with
  | true => exact wpAny_mono (ha env A κ' P ls σ' s' Q eo rm S' (q.1 rfl)) (fun u s'' z => z.from g) fun _ _ e => e
  | false => exact wpAny_mono (hb env A κ' P ls σ' s' Q eo rm S' (q.2 rfl)) (fun u s'' z => z.from g) fun _ _ e => e
theorem s_not {e : Expr} {t : E1} (h : SoundE X n sc names e t) : SoundE X n sc names (.UnaryOp .Not e pos) (pNot t) := fun env A κ P ls σ s Q eo rm S q =>
  wpAny_UnaryOp (h.run eo rm S q fun κ' σ' s' v u g S' r q => not_of (vtrue_ok r q fun b q => ⟨κ', σ', .bool (!b), g, S', rfl, q⟩))
theorem s_one {op : BoolOp} {a : Expr} {ta : E1} (ha : SoundE X n sc names a ta) : SoundE X n sc names (.BoolOp op [a] pos) ta := fun env A κ P ls σ s Q eo rm S q => BoolOp_one (ha env A κ P ls σ s Q eo rm S q)
theorem s_or {a b : Expr} {r : List Expr} {ta tb : E1} (ha : SoundE X n sc names a ta) (hb : SoundE X n sc names (.BoolOp .Or (b :: r) pos) tb) : SoundE X n sc names (.BoolOp .Or (a :: b :: r) pos) (pOr ta tb) := fun env A κ P ls σ s Q eo rm S q =>
  BoolOp_or (ha.run eo rm S q fun κ' σ' s' v u g S' r q => vtrue_ok r q fun x q => by
    cases x with
    | true => exact ⟨κ', σ', v, g, S', r, q.1 rfl⟩
    | false => exact wpAny_mono (hb env A κ' P ls σ' s' Q eo rm S' (q.2 rfl)) (fun u s'' z => z.from g) fun _ _ e => e)
theorem s_and {a b : Expr} {r : List Expr} {ta tb : E1} (ha : SoundE X n sc names a ta) (hb : SoundE X n sc names (.BoolOp .And (b :: r) pos) tb) : SoundE X n sc names (.BoolOp .And (a :: b :: r) pos) (pAnd ta tb) := fun env A κ P ls σ s Q eo rm S q =>
  BoolOp_and (ha.run eo rm S q fun κ' σ' s' v u g S' r q => vtrue_ok r q fun x q => by
    cases x with
    | true => exact wpAny_mono (hb env A κ' P ls σ' s' Q eo rm S' (q.1 rfl)) (fun u s'' z => z.from g) fun _ _ e => e
    | false => exact ⟨κ', σ', v, g, S', r, q.2 rfl⟩)
end
abbrev Es := Ls → H → (List V → H → Prop) → Prop
def eNil (_ : Ls) (σ : H) (Q : List V → H → Prop) : Prop := Q [] σ
def eCons (t : E1) (r : Es) (ls : Ls) (σ : H) (Q : List V → H → Prop) : Prop := t ls σ fun v σ => r ls σ fun vs σ => Q (v :: vs) σ
noncomputable def notStar : Expr → Bool | .Starred _ _ => false | _ => true
inductive PostEs (X : GC) (P : Addr → Obj → Prop) (env : Env) (names : List Str) (ls : Ls) (κ : Km) (s : Shared) (Q : List V → H → Prop) (us : List Value) (s' : Shared) : Prop where
  | mk (κ' : Km) (σ' : H) (vs : List V) (g : Go κ κ' s s') (S : St X κ' P env names ls σ' s') (r : VRels κ' s'.heap vs us) (q : Q vs σ')
def SoundEs (X : GC) (n : Nat) (sc : Scope) (names : List Str) (es : List Expr) (t : Es) : Prop :=
  ∀ env A κ P ls σ s Q pos, EnvOk env sc → Rm n A → St X κ P env names ls σ s → t ls σ Q → wpAny X.M A (spliced (backTo pos (starEach es env))) (PostEs X P env names ls κ s Q) no s
section
variable {X : GC} {n : Nat} {sc : Scope} {names : List Str} {pos : Pos}
theorem SoundEs.run {κ : Km} {P : Addr → Obj → Prop} {env : Env} {ls : Ls} {σ : H} {s : Shared} {es : List Expr} {t : Es} (h : SoundEs X n sc names es t) {A : Around} {Q : List V → H → Prop} {R : List Value → Shared → Prop} (eo : EnvOk env sc) (rm : Rm n A) (S : St X κ P env names ls σ s) (ht : t ls σ Q)
    (k : ∀ κ' σ' s' vs us, Go κ κ' s s' → St X κ' P env names ls σ' s' → VRels κ' s'.heap vs us → Q vs σ' → R us s') : wpAny X.M A (spliced (backTo pos (starEach es env))) R no s :=
  wpAny_mono (h env A κ P ls σ s Q pos eo rm S ht) (fun u s' ⟨κ', σ', v, g, S', r, q⟩ => k κ' σ' s' v u g S' r q) fun _ _ e => e
theorem starEach_cons {e : Expr} {r : List Expr} {env : Env} (h : notStar e = true) : starEach (e :: r) env = (false, eval e env) :: starEach r env := by cases e <;> first | rfl | cases h
theorem es_nil : SoundEs X n sc names [] eNil := fun env A κ P ls σ s Q pos eo rm S q => Calls.spliced_nil ⟨κ, σ, [], .refl _ _, S, trivial, q⟩
theorem es_cons {e : Expr} {r : List Expr} {t : E1} {tr : Es} (h : SoundE X n sc names e t) (hr : SoundEs X n sc names r tr) (hn : notStar e = true := by rfl) : SoundEs X n sc names (e :: r) (eCons t tr) := fun env A κ P ls σ s Q pos eo rm S q => by
  rw [starEach_cons hn]
  exact Calls.spliced_cons (h.run eo rm S q fun κ' σ' s' v u g S' r q => hr.run eo rm S' q fun κ'' σ'' s'' vs us g' S'' rs q => ⟨κ'', σ'', v :: vs, g.trans g', S'', ⟨g'.v r, rs⟩, q⟩)
noncomputable def vitems (v : V) : Option (List V) := V.rec (motive := fun _ => Option (List V)) none (fun _ => none) (fun _ => none) (fun _ => none) (fun a b _ _ => some [a, b]) (fun a b c _ _ _ => some [a, b, c]) (fun a b c d _ _ _ _ => some [a, b, c, d]) (fun _ _ => none) (fun _ => none) v
noncomputable def tupV (l : List V) : Option V := l.casesOn none fun a l => l.casesOn none fun b l => l.casesOn (some (.p2 a b)) fun c l => l.casesOn (some (.p3 a b c)) fun d l => l.casesOn (some (.p4 a b c d)) fun _ _ => none
theorem tup_vitems {v : V} {l : List V} (h : vitems v = some l) : tupV l = some v := by cases v <;> first | (cases h; rfl) | cases h
theorem vitems_tup {v : V} {l : List V} (h : tupV l = some v) : vitems v = some l := by
  cases l with
  | nil => cases h
  | cons a l => cases l with
    | nil => cases h
    | cons b l => cases l with
      | nil => cases h; rfl
      | cons c l => cases l with
        | nil => cases h; rfl
        | cons d l => cases l with
          | nil => cases h; rfl
          | cons _ _ => cases h
theorem vitems_ok {κ : Km} {h : Heap} {v : V} {u : Value} {l : List V} (r : VRel κ h v u) (e : vitems v = some l) : ∃ t us, u = .ref t ∧ IsTup h t us.toArray ∧ VRels κ h l us := by
  cases v with
  | p2 a b => cases e; obtain ⟨t, u1, u2, rfl, T, r1, r2⟩ := r; exact ⟨t, [u1, u2], rfl, T.2, r1, r2, trivial⟩
  | p3 a b c => cases e; obtain ⟨t, u1, u2, u3, rfl, T, r1, r2, r3⟩ := r; exact ⟨t, [u1, u2, u3], rfl, T.2, r1, r2, r3, trivial⟩
  | p4 a b c d => cases e; obtain ⟨t, u1, u2, u3, u4, rfl, T, r1, r2, r3, r4⟩ := r; exact ⟨t, [u1, u2, u3, u4], rfl, T.2, r1, r2, r3, r4, trivial⟩
  | _ => cases e
theorem tup_rel {κ : Km} {h : Heap} {v : V} {l : List V} {us : List Value} {x : Addr} (e : vitems v = some l) (r : VRels κ h l us) (T : TupAt κ h x us.toArray) : VRel κ h v (.ref x) := by
  cases v with
  | p2 a b => cases e; obtain ⟨_, _, rfl, r1, r⟩ := r.cons_ex; obtain ⟨_, _, rfl, r2, r⟩ := r.cons_ex; cases r.nil_eq; exact ⟨x, _, _, rfl, T, r1, r2⟩
  | p3 a b c => cases e; obtain ⟨_, _, rfl, r1, r⟩ := r.cons_ex; obtain ⟨_, _, rfl, r2, r⟩ := r.cons_ex; obtain ⟨_, _, rfl, r3, r⟩ := r.cons_ex; cases r.nil_eq; exact ⟨x, _, _, _, rfl, T, r1, r2, r3⟩
  | p4 a b c d => cases e; obtain ⟨_, _, rfl, r1, r⟩ := r.cons_ex; obtain ⟨_, _, rfl, r2, r⟩ := r.cons_ex; obtain ⟨_, _, rfl, r3, r⟩ := r.cons_ex; obtain ⟨_, _, rfl, r4, r⟩ := r.cons_ex; cases r.nil_eq; exact ⟨x, _, _, _, _, rfl, T, r1, r2, r3, r4⟩
  | _ => cases e
theorem vitems_len {v : V} {l : List V} (e : vitems v = some l) : l.length ≤ 4 := by cases v <;> first | (cases e; exact Nat.le_of_ble_eq_true rfl) | cases e
def pTup (t : Es) (ls : Ls) (σ : H) (Q : V → H → Prop) : Prop := t ls σ fun vs σ => ob (tupV vs) fun v => Q v σ
def pList (k : Nat) (t : Es) (ls : Ls) (σ : H) (Q : V → H → Prop) : Prop := t ls σ fun vs σ => vs.length ≤ 1000 ∧ ∀ a, σ.nxt ≤ a → Q (.ref (.lst k) a) (σ.newL k a vs)
theorem s_tup {es : List Expr} {t : Es} {m : Nat} (h : SoundEs X n sc names es t) : SoundE X n sc names (.Tuple es m pos) (pTup t) := fun env A κ P ls σ s Q eo rm S q => by
  refine wpAny_Tuple (h.run eo rm S q fun κ' σ' s' vs us g S' rs q => ?_)
  have tup : IsTup (s'.heap.push { cls := .type "tuple", data := .seq us.toArray }) s'.heap.objs.size us.toArray := ⟨_, Heap.get?_push_size _ rfl, rfl, 0, rfl⟩
  obtain ⟨κ₂, g₂, S₂, T⟩ := S'.newTup (s' := { s' with heap := s'.heap.push { cls := .type "tuple", data := .seq us.toArray } }) (a := s'.heap.objs.size) (Nat.le_refl _) (fun a o e => Heap.get?_push_of_some _ e) (by rw [Heap.size_push]; exact Nat.le_succ _) rfl rfl tup
  obtain ⟨v, e, q⟩ := ob_ex q
  have e := vitems_tup e
  exact ⟨by rw [sizeLine_eq, ← rs.length]; exact Nat.le_trans (vitems_len e) (by decide), κ₂, σ', v, g.trans g₂, S₂, tup_rel e (g₂.vs rs) T, q⟩
theorem s_list {es : List Expr} {t : Es} {k : Nat} (h : SoundEs X n sc names es t) : SoundE X n sc names (.List es pos) (pList k t) := fun env A κ P ls σ s Q eo rm S q => by
  refine wpAny_List (h.run eo rm S q fun κ' σ' s' vs us g S' rs q => ?_)
  obtain ⟨κ'', g', S'', hk⟩ := S'.newL (k := k) (vs := us.toArray) (l := vs) (by simpa using rs)
  exact ⟨by rw [← rs.length]; exact len_line q.1, κ'', _, .ref _ _, g.trans g', S'', ⟨rfl, hk⟩, q.2 _ S'.w.size⟩
end
end
section
open PyProof.V PySem.Spec
noncomputable def dput {K α : Type} [DecidableEq K] (l : List (K × α)) (k : K) (v : α) : List (K × α) := if l.any (fun x => decide (x.1 = k)) then l.map (fun x => if x.1 = k then (x.1, v) else x) else l ++ [(k, v)]
noncomputable def dget {K α : Type} [DecidableEq K] (l : List (K × α)) (k : K) : Option α := (l.find? fun x => decide (x.1 = k)).map (·.2)
section
variable {κ : Km} {h : Heap}
theorem PRels.any {K : Type} {p : K → Bool} {l : List (K × V)} {u : List (K × Value)} (r : PRels κ h l u) : l.any (fun x => p x.1) = u.any (fun x => p x.1) := by
  induction l generalizing u with
  | nil => cases r.nil_eq; rfl
  | cons a l ih => obtain ⟨_, _, rfl, _, r2⟩ := r.cons_ex; exact congrArg (p a.1 || ·) (ih r2)
theorem PRels.append {K : Type} {l l' : List (K × V)} {u u' : List (K × Value)} (r : PRels κ h l u) (b : PRels κ h l' u') : PRels κ h (l ++ l') (u ++ u') := by
  induction l generalizing u with
  | nil => cases r.nil_eq; exact b
  | cons a l ih => obtain ⟨_, _, rfl, r1, r2⟩ := r.cons_ex; exact ⟨rfl, r1, ih r2⟩
theorem PRels.mapPut {K : Type} [DecidableEq K] {k : K} {v : V} {x : Value} (q : VRel κ h v x) {l : List (K × V)} {u : List (K × Value)} (r : PRels κ h l u) : PRels κ h (l.map fun x => if x.1 = k then (x.1, v) else x) (u.map fun y => if y.1 = k then (y.1, x) else y) := by
  induction l generalizing u with
  | nil => cases r.nil_eq; trivial
  | cons a l ih =>
    obtain ⟨_, _, rfl, r1, r2⟩ := r.cons_ex
    rw [List.map_cons, List.map_cons]
    by_cases z : a.1 = k
    · rw [if_pos z, if_pos z]; exact ⟨rfl, q, ih r2⟩
    · rw [if_neg z, if_neg z]; exact ⟨rfl, r1, ih r2⟩
theorem PRels.dput {K : Type} [DecidableEq K] {k : K} {v : V} {x : Value} {l : List (K × V)} {u : List (K × Value)} (r : PRels κ h l u) (q : VRel κ h v x) : PRels κ h (dput l k v) (stored u k x) := by
  unfold NT.dput stored
  rw [r.any (p := fun y => decide (y = k))]
  split
  · exact r.mapPut q
  · exact r.append ⟨rfl, q, trivial⟩
theorem PRels.dget {K : Type} [DecidableEq K] {k : K} {l : List (K × V)} {u : List (K × Value)} (r : PRels κ h l u) : match NT.dget l k with | some v => ∃ x, valueAt u k = some x ∧ VRel κ h v x | none => valueAt u k = none := by
  unfold NT.dget valueAt
  induction l generalizing u with
  | nil => cases r.nil_eq; rfl
  | cons a l ih =>
    obtain ⟨y, _, rfl, r1, r2⟩ := r.cons_ex
    rw [List.find?_cons, List.find?_cons]
    by_cases z : a.1 = k
    · rw [decide_eq_true z]; exact ⟨y, rfl, r1⟩
    · rw [decide_eq_false z]; exact ih r2
theorem PRels.dgetS {K : Type} [DecidableEq K] {k : K} {l : List (K × V)} {u : List (K × Value)} {v : V} (r : PRels κ h l u) (e : NT.dget l k = some v) : ∃ x, valueAt u k = some x ∧ VRel κ h v x := by
  have g := r.dget (k := k); rw [e] at g; exact g
theorem TRels.length {l : List ((Str × Int) × V)} {u : List (List MK × Addr × Value)} (r : TRels κ h l u) : l.length = u.length := by
  induction l generalizing u with
  | nil => cases r.nil_eq; rfl
  | cons a l ih => obtain ⟨_, _, _, rfl, _, _, r2⟩ := r.cons_ex; exact congrArg (· + 1) (ih r2)
theorem TRels.append {l l' : List ((Str × Int) × V)} {u u' : List (List MK × Addr × Value)} (r : TRels κ h l u) (b : TRels κ h l' u') : TRels κ h (l ++ l') (u ++ u') := by
  induction l generalizing u with
  | nil => cases r.nil_eq; exact b
  | cons a l ih => obtain ⟨_, _, _, rfl, e, r1, r2⟩ := r.cons_ex; exact ⟨⟨rfl, e⟩, r1, ih r2⟩
theorem TRels.dget {k : Str × Int} {l : List ((Str × Int) × V)} {u : List (List MK × Addr × Value)} (r : TRels κ h l u) : match NT.dget l k with | some v => ∃ a x, atKey u (tkey k) = some (a, x) ∧ VRel κ h v x | none => atKey u (tkey k) = none := by
  unfold NT.dget atKey
  induction l generalizing u with
  | nil => cases r.nil_eq; rfl
  | cons a l ih =>
    obtain ⟨x, y, _, rfl, _, r1, r2⟩ := r.cons_ex
    rw [List.find?_cons, List.find?_cons]
    by_cases z : a.1 = k
    · rw [decide_eq_true z, decide_eq_true (congrArg tkey z)]; exact ⟨x, y, rfl, r1⟩
    · rw [decide_eq_false z, decide_eq_false fun q => z (tkey_inj q)]; exact ih r2
theorem TRels.mapPut {k : Str × Int} {v : V} {x : Value} (q : VRel κ h v x) {l : List ((Str × Int) × V)} {u : List (List MK × Addr × Value)} (r : TRels κ h l u) : TRels κ h (l.map fun x => if x.1 = k then (x.1, v) else x) (u.map (putAt (tkey k) x)) := by
  unfold putAt
  induction l generalizing u with
  | nil => cases r.nil_eq; trivial
  | cons a l ih =>
    obtain ⟨_, _, _, rfl, e, r1, r2⟩ := r.cons_ex
    rw [List.map_cons, List.map_cons]
    by_cases z : a.1 = k
    · rw [if_pos z, if_pos (congrArg tkey z)]; exact ⟨⟨rfl, e⟩, q, ih r2⟩
    · rw [if_neg z, if_neg fun y => z (tkey_inj y)]; exact ⟨⟨rfl, e⟩, r1, ih r2⟩
theorem TRels.dput {k : Str × Int} {v : V} {a : Addr} {x : Value} {l : List ((Str × Int) × V)} {u : List (List MK × Addr × Value)} (r : TRels κ h l u) (q : VRel κ h v x) (ha : κ a = some .tup) : TRels κ h (dput l k v) (storedH u (tkey k) a x) := by
  have g := r.dget (k := k)
  unfold NT.dput
  unfold NT.dget at g
  cases e : l.find? fun x => decide (x.1 = k) with
  | none =>
    rw [e] at g
    have : l.any (fun x => decide (x.1 = k)) = false := by
      rw [List.any_eq_false]; intro y hy; simpa using List.find?_eq_none.mp e y hy
    rw [this, if_neg (by decide), storedH_new g]
    exact r.append ⟨⟨rfl, ha⟩, q, trivial⟩
  | some y =>
    rw [e] at g
    obtain ⟨b, z, hz, _⟩ := g
    have : l.any (fun x => decide (x.1 = k)) = true := List.any_eq_true.mpr ⟨y, List.mem_of_find?_eq_some e, by simpa using List.find?_some e⟩
    rw [this, if_pos rfl, storedH_old hz]
    exact r.mapPut q
end
noncomputable def H.setS (σ : H) (k : Nat) (a : Addr) (l : List (Str × V)) (e : Nat) : H := { σ with dS := fun k' a' => if k' = k ∧ a' = a then (l, e) else σ.dS k' a' }
noncomputable def H.setI (σ : H) (k : Nat) (a : Addr) (l : List (Int × V)) : H := { σ with dI := fun k' a' => if k' = k ∧ a' = a then l else σ.dI k' a' }
noncomputable def H.setT (σ : H) (k : Nat) (a : Addr) (l : List ((Str × Int) × V)) : H := { σ with dT := fun k' a' => if k' = k ∧ a' = a then l else σ.dT k' a' }
noncomputable def H.newS (σ : H) (k : Nat) (a : Addr) (l : List (Str × V)) (e : Nat) : H := { σ.setS k a l e with nxt := a + 1 }
noncomputable def H.newI (σ : H) (k : Nat) (a : Addr) (l : List (Int × V)) : H := { σ.setI k a l with nxt := a + 1 }
noncomputable def H.newT (σ : H) (k : Nat) (a : Addr) (l : List ((Str × Int) × V)) : H := { σ.setT k a l with nxt := a + 1 }
section
variable {X : GC} {κ : Km} {P : Addr → Obj → Prop} {env : Env} {names : List Str} {ls : Ls} {σ : H} {s s' : Shared} {n : Nat} {sc : Scope} {A : Around}
theorem dict_notTup {h : Heap} {a : Addr} {o : Obj} (ho : h.get? a = some o) (hc : o.cls = .type "dict") : ∀ its, ¬ IsTup h a its := fun its ⟨o', ho', hc', _⟩ => by
  rw [ho] at ho'; cases ho'; rw [hc] at hc'; exact absurd hc' (by simp)
theorem St.setD (S : St X κ P env names ls σ s) {kd : Kd} {a : Addr} {σ' : H} (ha : κ a = some kd) (hni : ∀ c, kd ≠ .inst c) (hT : ∀ its, ¬ IsTup s.heap a its) (hsb : Heap.SameBut a s.heap s'.heap) (hg : s'.gens = s.gens) (hos : s'.os = s.os)
    (hn : σ'.nxt = σ.nxt) (hc : KeepT κ s.heap s'.heap → CellAt X κ s'.heap σ' kd a) (hf : σ'.fld = σ.fld) (hl : ∀ c b, b ≠ a → σ'.lst c b = σ.lst c b) (hS : ∀ c b, b ≠ a → σ'.dS c b = σ.dS c b) (hI : ∀ c b, b ≠ a → σ'.dI c b = σ.dI c b) (hD : ∀ c b, b ≠ a → σ'.dT c b = σ.dT c b) (hni' : kd ≠ .idict) (htup : kd ≠ .tup := by simp) :
    KeepT κ s.heap s'.heap ∧ St X κ P env names ls σ' s' := by
  have kt : KeepT κ s.heap s'.heap := KeepT.but hsb.extBut hT
  refine ⟨kt, S.w.put ha htup hsb.extBut (Nat.le_of_eq hsb.1.symm) hg hos hn ?_ (fun c b _ _ => by rw [hf]) (fun c b _ hb => hl c b hb) (fun c b _ hb => hS c b hb) (fun c b _ hb => hI c b hb) (fun c b _ hb => hD c b hb), S.f.cell ha hT hsb.extBut⟩
  rintro b k' hb (rfl | ⟨c, rfl, hb'⟩)
  · rw [ha] at hb; cases hb; exact hc kt
  · obtain ⟨_, d, e, hd, _⟩ := S.w.cell b _ hb
    have : d = a := Nat.succ.inj (e.symm.trans hb')
    rw [this, ha] at hd; cases hd; exact absurd rfl hni'
theorem if_ne2 {α : Type} {k c : Nat} {a b : Addr} {x y : α} (h : b ≠ a) : (if c = k ∧ b = a then x else y) = y := if_neg fun z => h z.2
theorem if_eq2 {α : Type} {k : Nat} {a : Addr} {x y : α} : (if k = k ∧ a = a then x else y) = x := if_pos ⟨rfl, rfl⟩
theorem dictOf_cls {prog : Program} {w : World} {K : Type} [DecidableEq K] {knd : PySem.KeyKind prog w K} {h : Heap} {a : Addr} {kvs : List (K × Value)} (D : h.DictOf knd a kvs) : ∀ its, ¬ IsTup h a its :=
  let ⟨_, _, _, ho, hc, _⟩ := D; dict_notTup ho hc.1
theorem dictOfH_cls {prog : Program} {w : World} {K : Type} [DecidableEq K] {knd : HeapKind prog w K} {h : Heap} {a : Addr} {xs : List (K × Addr × Value)} (D : h.DictOfH knd a xs) : ∀ its, ¬ IsTup h a its :=
  let ⟨_, _, _, ho, hc, _⟩ := D; dict_notTup ho hc.1
theorem St.setS (S : St X κ P env names ls σ s) {k : Nat} {a : Addr} {l : List (Str × V)} {kvs : List (Str × Value)} (ha : κ a = some (.dS k)) (hD : s'.heap.DictOf (strKind X.prog X.w) a kvs) (r : PRels κ s.heap l kvs) (hsb : Heap.SameBut a s.heap s'.heap)
    (hg : s'.gens = s.gens) (hos : s'.os = s.os) : ∃ e, KeepT κ s.heap s'.heap ∧ St X κ P env names ls (σ.setS k a l e) s' := by
  obtain ⟨kvs₀, D₀, _⟩ := S.w.cell a _ ha
  obtain ⟨e, hD⟩ := hD.dictAt
  refine ⟨e, S.setD (s' := s') (σ' := σ.setS k a l e) ha (fun c => by simp) (dictOf_cls D₀.dictOf) hsb hg hos rfl (fun kt => ⟨kvs, ?_⟩) rfl (fun _ _ _ => rfl) (fun c b hb => if_ne2 hb) (fun _ _ _ => rfl) (fun _ _ _ => rfl) (by simp)⟩
  have e1 : (σ.setS k a l e).dS k a = (l, e) := if_eq2
  rw [e1]; exact ⟨hD, r.mono (fun _ _ z => z) kt⟩
theorem St.setI (S : St X κ P env names ls σ s) {k : Nat} {a : Addr} {l : List (Int × V)} {kvs : List (Int × Value)} (ha : κ a = some (.dI k)) (hD : s'.heap.DictOf (intKind X.prog X.w) a kvs) (r : PRels κ s.heap l kvs) (hsb : Heap.SameBut a s.heap s'.heap)
    (hg : s'.gens = s.gens) (hos : s'.os = s.os) : KeepT κ s.heap s'.heap ∧ St X κ P env names ls (σ.setI k a l) s' := by
  obtain ⟨kvs₀, D₀, _⟩ := S.w.cell a _ ha
  refine S.setD (s' := s') ha (fun c => by simp) (dictOf_cls D₀) hsb hg hos rfl (fun kt => ⟨kvs, hD, ?_⟩) rfl (fun _ _ _ => rfl) (fun _ _ _ => rfl) (fun c b hb => if_ne2 hb) (fun _ _ _ => rfl) (by simp)
  show PRels _ _ (if k = k ∧ a = a then l else _) _
  rw [if_eq2]; exact r.mono (fun _ _ z => z) kt
theorem St.setT (S : St X κ P env names ls σ s) {k : Nat} {a : Addr} {l : List ((Str × Int) × V)} {xs : List (List MK × Addr × Value)} (ha : κ a = some (.dT k)) (hD : s'.heap.DictOfH (tupleKind (mixKind X.prog X.w)) a xs) (r : TRels κ s.heap l xs) (hsb : Heap.SameBut a s.heap s'.heap)
    (hg : s'.gens = s.gens) (hos : s'.os = s.os) : KeepT κ s.heap s'.heap ∧ St X κ P env names ls (σ.setT k a l) s' := by
  obtain ⟨kvs₀, D₀, _⟩ := S.w.cell a _ ha
  refine S.setD (s' := s') ha (fun c => by simp) (dictOfH_cls D₀) hsb hg hos rfl (fun kt => ⟨xs, hD, ?_⟩) rfl (fun _ _ _ => rfl) (fun _ _ _ => rfl) (fun _ _ _ => rfl) (fun c b hb => if_ne2 hb) (by simp)
  show TRels _ _ (if k = k ∧ a = a then l else _) _
  rw [if_eq2]; exact r.mono (fun _ _ z => z) kt
end
def vsub (a i : V) (σ : H) (Q : V → H → Prop) : Prop := match a with
  | .p2 a b => onI i fun j => if j = 0 then Q a σ else j = 1 ∧ Q b σ
  | .p3 a b c => onI i fun j => if j = 0 then Q a σ else if j = 1 then Q b σ else j = 2 ∧ Q c σ
  | .ref k x => match k with
    | .lst k => onI i fun j => (0 ≤ j ∧ j < 1000) ∧ ∃ w, (σ.lst k x)[j.toNat]? = some w ∧ Q w σ
    | .dS k => onS i fun y => ∃ w, dget (σ.dS k x).1 y = some w ∧ Q w σ
    | .dI k => onI i fun y => ∃ w, dget (σ.dI k x) y = some w ∧ Q w σ
    | .dT k => onT i fun y z => ∃ w, dget (σ.dT k x) (y, z) = some w ∧ Q w σ
    | _ => False
  | _ => False
def pSub (t i : E1) (ls : Ls) (σ : H) (Q : V → H → Prop) : Prop := t ls σ fun a σ => i ls σ fun b σ => vsub a b σ Q
section
variable {X : GC} {n : Nat} {sc : Scope} {names : List Str} {pos : Pos}
theorem tkey_of {κ : Km} {h : Heap} {x : Str} {i : Int} {v : Value} (r : VRel κ h (.p2 (.str x) (.int i)) v) : ∃ a, v = .ref a ∧ IsTupleKey (mixKind X.prog X.w) h (tkey (x, i)) a ∧ κ a = some .tup := by
  obtain ⟨a, u1, u2, rfl, ⟨hκ, o, ho, hc, m, hd⟩, ⟨t1, rfl⟩, ⟨t2, rfl⟩⟩ := r
  refine ⟨a, rfl, ⟨o, _, m, ho, hc, hd, .cons ?_ (.cons ?_ .nil)⟩, hκ⟩
  · show isMix (Sum.inl x) (Value.str x t1) = true
    simp [isMix, Value.isStrOf]
  · show isMix (Sum.inr i) (Value.int i t2) = true
    simp [isMix, Value.isInt]
theorem vsub_ok {κ : Km} {P : Addr → Obj → Prop} {env : Env} {ls : Ls} {σ : H} {s : Shared} {A : Around} {a i : V} {ua ui : Value} {value slice : Expr} {Q : V → H → Prop} (rm : Rm n A) (S : St X κ P env names ls σ s) (r1 : VRel κ s.heap a ua) (r2 : VRel κ s.heap i ui) (q : vsub a i σ Q)
    (hs : ∀ o i, subscripted slice false o i = operate [o, i] (getItem o i)) : wpAny X.M A (subscriptTail value slice ua ui) (PostE X P env names ls κ s Q) no s := by
  cases a <;> first | exact q.elim | skip
  · replace q := onI_ex q; obtain ⟨j, rfl, q⟩ := q
    obtain ⟨x, u1, u2, rfl, T, ra, rb⟩ := r1; obtain ⟨t, rfl⟩ := r2
    by_cases e : j = 0
    · rw [if_pos e] at q; subst e
      exact item_tupleT (l := [u1, u2]) (j := 0) (x := u1) T.2 (by decide) (by decide) (by rfl) rfl (S.here (.refl _) S ra q) (hs _ _)
    · rw [if_neg e] at q; obtain ⟨rfl, q⟩ := q
      exact item_tupleT (l := [u1, u2]) (j := 1) (x := u2) T.2 (by decide) (by decide) (by rfl) rfl (S.here (.refl _) S rb q) (hs _ _)
  · replace q := onI_ex q; obtain ⟨j, rfl, q⟩ := q
    obtain ⟨x, u1, u2, u3, rfl, T, ra, rb, rc⟩ := r1; obtain ⟨t, rfl⟩ := r2
    by_cases e : j = 0
    · rw [if_pos e] at q; subst e
      exact item_tupleT (l := [u1, u2, u3]) (j := 0) (x := u1) T.2 (by decide) (by decide) (by rfl) rfl (S.here (.refl _) S ra q) (hs _ _)
    · rw [if_neg e] at q
      by_cases e : j = 1
      · rw [if_pos e] at q; subst e
        exact item_tupleT (l := [u1, u2, u3]) (j := 1) (x := u2) T.2 (by decide) (by decide) (by rfl) rfl (S.here (.refl _) S rb q) (hs _ _)
      · rw [if_neg e] at q; obtain ⟨rfl, q⟩ := q
        exact item_tupleT (l := [u1, u2, u3]) (j := 2) (x := u3) T.2 (by decide) (by decide) (by rfl) rfl (S.here (.refl _) S rc q) (hs _ _)
  · rename_i k x
    obtain ⟨rfl, ha⟩ := r1
    cases k <;> first | exact q.elim | skip
    · replace q := onI_ex q; obtain ⟨j, rfl, ⟨h0, h1⟩, w, hw, q⟩ := q; obtain ⟨t, rfl⟩ := r2
      obtain ⟨vs, m, ho, rs⟩ := S.w.cell _ _ ha
      obtain ⟨u, hu, ru⟩ := rs.get hw
      have hL : s.heap.IsList _ vs := ⟨_, ho, rfl, m, rfl⟩
      exact tail_any hL.typeIs slot_list_getitem.lookup (wpAny_getItem_list hL h0 (by exact pc12) (by rw [← Array.getElem?_toList]; exact hu) (S.here (v := w) (.refl _) S ru q)) (hs _ _)
    · replace q := onS_ex q; obtain ⟨y, rfl, w, hw, q⟩ := q; obtain ⟨t, rfl⟩ := r2
      obtain ⟨kvs, D, rs⟩ := S.w.cell _ _ ha
      have D := D.dictOf
      obtain ⟨u, hu, ru⟩ := rs.dgetS hw
      exact tail_any D.typeIs slot_dict_getitem.lookup (wpAny_getItem_of (strKind_is X.prog X.w _ t) D.mapOf hu (S.here (.refl _) (S.toks _) ru q)) (hs _ _)
    · replace q := onI_ex q; obtain ⟨y, rfl, w, hw, q⟩ := q; obtain ⟨t, rfl⟩ := r2
      obtain ⟨kvs, D, rs⟩ := S.w.cell _ _ ha
      obtain ⟨u, hu, ru⟩ := rs.dgetS hw
      exact tail_any D.typeIs slot_dict_getitem.lookup (wpAny_getItem_of (intKind_is X.prog X.w _ t) D.mapOf hu (S.here (.refl _) (S.toks _) ru q)) (hs _ _)
    · replace q := onT_ex q; obtain ⟨y, z, rfl, w, hw, q⟩ := q
      obtain ⟨b, rfl, hk, hκb⟩ := tkey_of (X := X) r2
      obtain ⟨kvs, D, rs⟩ := S.w.cell _ _ ha
      have g := rs.dget (k := (y, z))
      rw [hw] at g
      obtain ⟨c, u, hu, ru⟩ := g
      exact tail_any D.typeIs slot_dict_getitem.lookup (wpAny_getItem_heap (knd := tupleKind (mixKind X.prog X.w)) (p := (c, u)) (tupleKind_room_in1 (rm.c 1)) hk D hu (S.here (.refl _) (S.toks _) ru q)) (hs _ _)
theorem s_sub {e i : Expr} {t ti : E1} (h1 : SoundE X n sc names e t) (h2 : SoundE X n sc names i ti) (hs : ∀ o j, subscripted i false o j = operate [o, j] (getItem o j) := by exact fun _ _ => rfl) : SoundE X n sc names (.Subscript e i pos) (pSub t ti) := fun env A κ P ls σ s Q eo rm S q =>
  Subscript_ (h1.run eo rm S q fun κ₁ σ₁ s₁ a u1 g₁ S₁ r₁ q => h2.run eo rm S₁ q fun κ₂ σ₂ s₂ b u2 g₂ S₂ r₂ q =>
    wpAny_mono (vsub_ok rm S₂ (g₂.v r₁) r₂ q hs) (fun _ _ z => z.from (g₁.trans g₂)) fun _ _ e => e)
end
end
section
open PyProof.V PySem.Spec
noncomputable def V.pl (n : Nat) (v : V) : Bool := V.rec (motive := fun _ => Nat → Bool) (fun _ => true) (fun _ _ => false) (fun _ _ => true) (fun x _ => PyData.strOk x) (fun _ _ a b n => n.casesOn false fun n => a n && b n)
  (fun _ _ _ a b c n => n.casesOn false fun n => a n && (b n && c n)) (fun _ _ _ _ a b c d n => n.casesOn false fun n => a n && (b n && (c n && d n))) (fun _ _ _ => false) (fun _ _ => false) v n
noncomputable def V.data (v : V) : PyData := V.rec (motive := fun _ => PyData) .none (fun _ => .none) .int .str (fun _ _ a b => .tuple [a, b]) (fun _ _ _ a b c => .tuple [a, b, c]) (fun _ _ _ _ a b c d => .tuple [a, b, c, d]) (fun _ _ => .none) (fun _ => .none) v
theorem no_ff {p : Prop} (h : false = true) : p := (Bool.false_ne_true h).elim
inductive PlC (n : Nat) : V → Prop
  | none : PlC n .none
  | int (i : Int) : PlC n (.int i)
  | str (x : Str) (h : PyData.strOk x = true) : PlC n (.str x)
  | tup {m : Nat} {v : V} {l : List V} (hm : m < n) (e : vitems v = some l) (h : ∀ c ∈ l, c.pl m = true) : PlC n v
theorem all_cons {p : V → Bool} {a : V} {l : List V} (h : p a = true) (k : ∀ c ∈ l, p c = true) : ∀ c ∈ a :: l, p c = true := List.forall_mem_cons.mpr ⟨h, k⟩
theorem all_nil {p : V → Bool} : ∀ c ∈ ([] : List V), p c = true := fun _ h => (List.not_mem_nil h).elim
theorem V.plC {n : Nat} {v : V} (h : v.pl n = true) : PlC n v := by
  cases v with
  | none => exact .none
  | int i => exact .int i
  | str x => exact .str x h
  | p2 a b => cases n with
    | zero => exact no_ff h
    | succ n => obtain ⟨h1, h2⟩ := Bool.and_eq_true_iff.mp h; exact .tup (Nat.lt_succ_self n) rfl (all_cons h1 (all_cons h2 all_nil))
  | p3 a b c => cases n with
    | zero => exact no_ff h
    | succ n => obtain ⟨h1, h2⟩ := Bool.and_eq_true_iff.mp h; obtain ⟨h2, h3⟩ := Bool.and_eq_true_iff.mp h2; exact .tup (Nat.lt_succ_self n) rfl (all_cons h1 (all_cons h2 (all_cons h3 all_nil)))
  | p4 a b c d => cases n with
    | zero => exact no_ff h
    | succ n => obtain ⟨h1, h2⟩ := Bool.and_eq_true_iff.mp h; obtain ⟨h2, h3⟩ := Bool.and_eq_true_iff.mp h2; obtain ⟨h3, h4⟩ := Bool.and_eq_true_iff.mp h3; exact .tup (Nat.lt_succ_self n) rfl (all_cons h1 (all_cons h2 (all_cons h3 (all_cons h4 all_nil))))
  | _ => exact no_ff h
theorem vitems_data {v : V} {l : List V} (h : vitems v = some l) : v.data = .tuple (l.map V.data) := by cases v <;> first | (cases h; rfl) | cases h
theorem lay_all {n : Nat} {l : List V} (h : ∀ d ∈ l, d.data.canLay0 = true ∧ d.data.depth ≤ n) : PyData.canLayAll0 (l.map V.data) = true ∧ PyData.depthAll (l.map V.data) ≤ n := by
  induction l with
  | nil => exact ⟨rfl, Nat.zero_le _⟩
  | cons a l ih =>
    have h1 := h a (.head _)
    have h2 := ih fun d hd => h d (.tail _ hd)
    exact ⟨Bool.and_eq_true_iff.mpr ⟨h1.1, h2.1⟩, Nat.max_le.mpr ⟨h1.2, h2.2⟩⟩
theorem V.pl_lay (n : Nat) : ∀ v : V, v.pl n = true → v.data.canLay0 = true ∧ v.data.depth ≤ n := by
  induction n using Nat.strongRecOn with
  | ind n ih =>
    intro v h
    cases v.plC h with
    | none => exact ⟨rfl, Nat.zero_le _⟩
    | int i => exact ⟨rfl, Nat.zero_le _⟩
    | str x h => exact ⟨h, Nat.zero_le _⟩
    | tup hm e h =>
      rw [vitems_data e]
      exact (lay_all fun d hd => ih _ hm d (h d hd)).imp id fun z => Nat.lt_of_le_of_lt z hm
theorem eqvAll_of {l l' : List V} (h : ∀ a ∈ l, ∀ b ∈ l', PyData.eqv a.data b.data = true → a = b) (e : PyData.eqvAll (l.map V.data) (l'.map V.data) = true) : l = l' := by
  induction l generalizing l' with
  | nil => cases l' with
    | nil => rfl
    | cons _ _ => exact no_ff e
  | cons a l ih => cases l' with
    | nil => exact no_ff e
    | cons b l' =>
      obtain ⟨e1, e2⟩ := Bool.and_eq_true_iff.mp e
      rw [h a (.head _) b (.head _) e1, ih (fun a ha b hb => h a (.tail _ ha) b (.tail _ hb)) e2]
theorem V.eqv1 (n : Nat) : ∀ (m : Nat) (a b : V), a.pl n = true → b.pl m = true → PyData.eqv a.data b.data = true → a = b := by
  induction n using Nat.strongRecOn with
  | ind n ih =>
    intro m a b h h' e
    cases a.plC h with
    | none => cases b.plC h' with
      | none => rfl
      | int i => exact no_ff e
      | str x => exact no_ff e
      | tup _ e2 => rw [vitems_data e2] at e; exact no_ff e
    | int i => cases b.plC h' with
      | none => exact no_ff e
      | int j => exact congrArg V.int (beq_iff_eq.mp e)
      | str x => exact no_ff e
      | tup _ e2 => rw [vitems_data e2] at e; exact no_ff e
    | str x => cases b.plC h' with
      | none => exact no_ff e
      | int j => exact no_ff e
      | str y => exact congrArg V.str (beq_iff_eq.mp e)
      | tup _ e2 => rw [vitems_data e2] at e; exact no_ff e
    | tup hm e1 h1 =>
      rw [vitems_data e1] at e
      cases b.plC h' with
      | none => exact no_ff e
      | int j => exact no_ff e
      | str y => exact no_ff e
      | tup hm' e2 h2 =>
        rw [vitems_data e2] at e
        have := eqvAll_of (fun a ha b hb => ih _ hm _ a b (h1 a ha) (h2 b hb)) e
        exact Option.some.inj ((tup_vitems e1).symm.trans (this ▸ tup_vitems e2))
theorem V.eqv (n : Nat) (a : V) (m : Nat) (b : V) (h : a.pl n = true) (h' : b.pl m = true) : PyData.eqv a.data b.data = decide (a = b) :=
  Bool.eq_iff_iff.mpr ((Iff.intro (V.eqv1 n m a b h h') fun e => e ▸ SeqAt.eqv_refl _ (V.pl_lay n a h).1).trans decide_eq_true_iff.symm)
section
variable {κ : Km} {h : Heap}
theorem reads_all {l : List V} {us : List Value} (f : ∀ c ∈ l, ∀ u, VRel κ h c u → ∃ as, Reads h u c.data as) (r : VRels κ h l us) : ∃ as, ReadsAll h us (l.map V.data) as := by
  induction l generalizing us with
  | nil => cases r.nil_eq; exact ⟨_, .nil⟩
  | cons a l ih =>
    obtain ⟨u, us, rfl, r1, r2⟩ := r.cons_ex
    obtain ⟨_, q1⟩ := f a (.head _) u r1
    obtain ⟨_, q2⟩ := ih (fun c hc => f c (.tail _ hc)) r2
    exact ⟨_, .cons q1 q2⟩
theorem V.reads (n : Nat) : ∀ {v : V} {u : Value}, v.pl n = true → VRel κ h v u → ∃ as, Reads h u v.data as := by
  induction n using Nat.strongRecOn with
  | ind n ih =>
    intro v u h r
    cases v.plC h with
    | none => cases (show u = .none from r); exact ⟨_, Reads.none⟩
    | int i => obtain ⟨t, rfl⟩ := r; exact ⟨_, Reads.int i t⟩
    | str i => obtain ⟨t, rfl⟩ := r; exact ⟨_, Reads.str i t⟩
    | tup hm e hl =>
      obtain ⟨t, us, rfl, ⟨o, ho, hc, m, hd⟩, rs⟩ := vitems_ok r e
      obtain ⟨_, q⟩ := reads_all (fun c hc u r => ih _ hm (hl c hc) r) rs
      rw [vitems_data e]
      exact ⟨_, reads_tuple_at ho hc hd q⟩
theorem V.readsAll {l : List V} {us : List Value} (hp : l.all (V.pl 4) = true) (r : VRels κ h l us) : ∃ as, ReadsAll h us (l.map V.data) as := reads_all (fun c hc _ r => V.reads 4 (List.all_eq_true.mp hp c hc) r) r
end
theorem all_lay {l : List V} (h : l.all (V.pl 4) = true) : PyData.canLayAll0 (l.map V.data) = true ∧ PyData.depthAll (l.map V.data) ≤ 4 := lay_all fun d hd => V.pl_lay 4 d (List.all_eq_true.mp h d hd)
theorem shaped_pl {v : V} (h : v.pl 4 = true) : SeqAt.shaped v.data = true := by
  obtain ⟨a, b⟩ := V.pl_lay 4 v h
  exact Bool.and_eq_true_iff.mpr ⟨a, decide_eq_true (Nat.le_trans b (by decide))⟩
theorem shaped_all {l : List V} (h : l.all (V.pl 4) = true) : SeqAt.shaped (.list (l.map V.data)) = true := by
  obtain ⟨a, b⟩ := all_lay h
  exact Bool.and_eq_true_iff.mpr ⟨a, decide_eq_true (Nat.le_trans (Nat.succ_le_succ b) (by decide))⟩
theorem eqv_all {l l' : List V} (h : l.all (V.pl 4) = true) (h' : l'.all (V.pl 4) = true) : PyData.eqvAll (l.map V.data) (l'.map V.data) = decide (l = l') :=
  Bool.eq_iff_iff.mpr ((Iff.intro (eqvAll_of fun a ha b hb => V.eqv1 4 4 a b (List.all_eq_true.mp h a ha) (List.all_eq_true.mp h' b hb)) fun e => e ▸ SeqAt.eqvAll_refl _ (all_lay h).1).trans decide_eq_true_iff.symm)
noncomputable def V.asL (v : V) : Option (Nat × Addr) := v.casesOn (motive := fun _ => Option (Nat × Addr)) .none (fun _ => .none) (fun _ => .none) (fun _ => .none) (fun _ _ => .none) (fun _ _ _ => .none) (fun _ _ _ _ => .none) (fun k a => k.casesOn (motive := fun _ => Option (Nat × Addr)) (fun _ => .none) .none .none (fun k => .some (k, a)) (fun _ => .none) (fun _ => .none) (fun _ => .none)) (fun _ => .none)
theorem asL_eq {v : V} {p : Nat × Addr} (h : v.asL = some p) : v = .ref (.lst p.1) p.2 := by
  cases v <;> first | (cases h; done) | skip
  rename_i k _
  cases k <;> first | (cases h; rfl) | cases h
def fEq (a b : V) (σ : H) (Q : Bool → H → Prop) : Prop := a.asL.elim (a.pl 4 = true ∧ b.pl 4 = true ∧ Q (decide (a = b)) σ) fun p => ob b.asL fun p' => (σ.lst p.1 p.2).all (V.pl 4) = true ∧ (σ.lst p'.1 p'.2).all (V.pl 4) = true ∧ Q (decide (σ.lst p.1 p.2 = σ.lst p'.1 p'.2)) σ
def fNe (a b : V) (σ : H) (Q : Bool → H → Prop) : Prop := fEq a b σ fun x σ => Q (!x) σ
def fNotIn (a b : V) (σ : H) (Q : Bool → H → Prop) : Prop := onR b fun k x => match k with
  | .dI k => onI a fun y => Q (dget (σ.dI k x) y).isNone σ
  | .dT k => onT a fun y z => Q (dget (σ.dT k x) (y, z)).isNone σ
  | _ => False
section
variable {X : GC}
theorem eqParts {κ : Km} {P : Addr → Obj → Prop} {env : Env} {names : List Str} {ls : Ls} {σ : H} {s : Shared} {a b : V} {u1 u2 : Value} {Q : Bool → H → Prop} (S : St X κ P env names ls σ s) (r1 : VRel κ s.heap a u1) (r2 : VRel κ s.heap b u2) (q : fEq a b σ Q) :
    ∃ d1 d2 a1 a2, Reads s.heap u1 d1 a1 ∧ Reads s.heap u2 d2 a2 ∧ SeqAt.shaped d1 = true ∧ SeqAt.shaped d2 = true ∧ Q (d1.eqv d2) σ := by
  unfold fEq at q
  cases e : a.asL with
  | some p =>
    rw [e] at q
    obtain ⟨p', e', h1, h2, q⟩ := ob_ex q
    rw [asL_eq e] at r1; rw [asL_eq e'] at r2
    obtain ⟨rfl, e1⟩ := r1; obtain ⟨rfl, e2⟩ := r2
    obtain ⟨v1, n1, o1, w1⟩ := S.w.cell _ _ e1
    obtain ⟨v2, n2, o2, w2⟩ := S.w.cell _ _ e2
    obtain ⟨_, p1⟩ := V.readsAll h1 w1; obtain ⟨_, p2⟩ := V.readsAll h2 w2
    refine ⟨_, _, _, _, reads_list_at o1 rfl rfl p1, reads_list_at o2 rfl rfl p2, shaped_all h1, shaped_all h2, ?_⟩
    rw [← eqv_all h1 h2] at q; exact q
  | none =>
    rw [e] at q
    obtain ⟨h1, h2, q⟩ := q
    obtain ⟨_, p1⟩ := V.reads 4 h1 r1; obtain ⟨_, p2⟩ := V.reads 4 h2 r2
    exact ⟨_, _, _, _, p1, p2, shaped_pl h1, shaped_pl h2, by rw [V.eqv 4 _ 4 _ h1 h2]; exact q⟩
theorem c_eq : CmpOk X .Eq fEq := fun env names A κ P ls σ s Q n a b u1 u2 rm S r1 r2 q => by
  obtain ⟨d1, d2, a1, a2, p1, p2, s1, s2, q⟩ := eqParts S r1 r2 q
  exact eq_dataH p1 p2 s1 s2 (rm.c 64) ⟨_, rfl, .refl _, S, q⟩
theorem c_ne : CmpOk X .NotEq fNe := fun env names A κ P ls σ s Q n a b u1 u2 rm S r1 r2 q => by
  obtain ⟨d1, d2, a1, a2, p1, p2, s1, s2, q⟩ := eqParts S r1 r2 q
  exact ne_dataH p1 p2 s1 s2 (rm.c 64) ⟨_, rfl, .refl _, S, q⟩
theorem c_notIn : CmpOk X .NotIn fNotIn := fun env names A κ P ls σ s Q n a b u1 u2 rm S r1 r2 q => by
  replace q := onR_ex q; obtain ⟨k, x, rfl, q⟩ := q
  obtain ⟨rfl, e2⟩ := r2
  cases k <;> first | exact q.elim | skip
  · replace q := onI_ex q; obtain ⟨y, rfl, q⟩ := q; obtain ⟨t, rfl⟩ := r1
    obtain ⟨kvs, D, rs⟩ := S.w.cell _ _ e2
    have g := rs.dget (k := y)
    refine wpAny_notIn_of (intKind_is X.prog X.w _ t) (S.w.nsys e2) D.mapOf ⟨_, rfl, .refl _, S.toks _, ?_⟩
    cases e : dget (σ.dI _ _) y with
    | none => rw [e] at g q; rw [g]; exact q
    | some v => rw [e] at g q; obtain ⟨x, g, _⟩ := g; rw [g]; exact q
  · replace q := onT_ex q; obtain ⟨y, z, rfl, q⟩ := q
    obtain ⟨b, rfl, hk, hκb⟩ := tkey_of (X := X) r1
    obtain ⟨kvs, D, rs⟩ := S.w.cell _ _ e2
    have g := rs.dget (k := (y, z))
    refine wpAny_notIn_heap (knd := tupleKind (mixKind X.prog X.w)) (tupleKind_room_in1 (rm.c 1)) hk (S.w.nsys e2) D ⟨_, rfl, .refl _, S.toks _, ?_⟩
    cases e : dget (σ.dT _ _) (y, z) with
    | none => rw [e] at g q; rw [g]; exact q
    | some v => rw [e] at g q; obtain ⟨x, _, g, _⟩ := g; rw [g]; exact q
end
end
section
open PyProof.V PySem.Spec
abbrev A1 := V → Ls → H → (Ls → H → Prop) → Prop
abbrev As := List V → Ls → H → (Ls → H → Prop) → Prop
inductive PostA (X : GC) (P : Addr → Obj → Prop) (env : Env) (names : List Str) (κ : Km) (s : Shared) (Q : Ls → H → Prop) (_ : Unit) (s' : Shared) : Prop where
  | mk (κ' : Km) (σ' : H) (ls' : Ls) (g : Go κ κ' s s') (S : St X κ' P env names ls' σ' s') (q : Q ls' σ')
def SoundA (X : GC) (n : Nat) (sc : Scope) (names : List Str) (tg : Expr) (t : A1) : Prop :=
  ∀ env A κ P ls σ s Q v u, EnvOk env sc → Rm n A → St X κ P env names ls σ s → VRel κ s.heap v u → t v ls σ Q → wpAny X.M A (assign tg env u) (PostA X P env names κ s Q) no s
def SoundAs (X : GC) (n : Nat) (sc : Scope) (names : List Str) (tgs : List Expr) (t : As) : Prop :=
  ∀ env A κ P ls σ s Q vs us, EnvOk env sc → Rm n A → St X κ P env names ls σ s → VRels κ s.heap vs us → t vs ls σ Q → wpAny X.M A (assignInOrder ((assignEach tgs env).map (·.2)) us) (PostA X P env names κ s Q) no s
def aVar (i : Nat) (v : V) (ls : Ls) (σ : H) (Q : Ls → H → Prop) : Prop := Q (ls.set i (some v)) σ
def aFld (t : E1) (f : Nat) (v : V) (ls : Ls) (σ : H) (Q : Ls → H → Prop) : Prop := t ls σ fun o σ => match o with
  | .ref (.inst c) a => Q ls (σ.setF c a f v)
  | _ => False
def asNil (_ : List V) (ls : Ls) (σ : H) (Q : Ls → H → Prop) : Prop := Q ls σ
def asCons (t : A1) (r : As) (vs : List V) (ls : Ls) (σ : H) (Q : Ls → H → Prop) : Prop := match vs with | v :: vs => t v ls σ fun ls σ => r vs ls σ Q | [] => False
def aTup (m : Nat) (r : As) (v : V) (ls : Ls) (σ : H) (Q : Ls → H → Prop) : Prop := ob (vitems v) fun l => l.length = m ∧ r l ls σ Q
section
variable {X : GC} {κ : Km} {P : Addr → Obj → Prop} {env : Env} {names : List Str} {ls : Ls} {σ : H} {s s' : Shared} {n : Nat} {sc : Scope} {A : Around} {pos : Pos}
theorem St.extBut (S : St X κ P env names ls σ s) {h' : Heap} {a : Addr} (ha : s.heap.objs.size ≤ a) (hs : Heap.ExtBut a s.heap h') (hz : s.heap.objs.size ≤ h'.objs.size) : KeepT κ s.heap h' ∧ St X κ P env names ls σ { s with heap := h' } := by
  have k : ∀ b o, s.heap.get? b = some o → h'.get? b = some o := fun b o e => hs b o (fun q => absurd (Heap.lt_size e) (Nat.not_lt.mpr (q ▸ ha))) e
  exact ⟨KeepT.of k, S.ext (s' := { s with heap := h' }) k hz rfl rfl⟩
theorem PostA.from {κ' : Km} {Q : Ls → H → Prop} {u : Unit} {s₁ : Shared} (p : PostA X P env names κ' s₁ Q u s') (g : Go κ κ' s s₁) : PostA X P env names κ s Q u s' :=
  by obtain ⟨k, q, v, g', S, r⟩ := p; exact ⟨k, q, v, g.trans g', S, r⟩
theorem a_name {i : Nat} {x : Str} (hx : names[i]? = some x) (hk : sc.names.lookup x = some .local ∨ sc.names.lookup x = some .cell) : SoundA X n sc names (.Name x pos) (aVar i) := fun env A κ P ls σ s Q v u eo rm S r q =>
  wpAny_assign_Name (S.store eo hx hk r fun s' kt S' => ⟨κ, σ, _, ⟨fun _ _ e => e, kt⟩, S', q⟩)
theorem as_nil : SoundAs X n sc names [] asNil := fun env A κ P ls σ s Q vs us eo rm S r q => assignInOrder_nil ⟨κ, σ, ls, .refl _ _, S, q⟩
theorem assignEach_cons {e : Expr} {r : List Expr} {env : Env} (h : notStar e = true) : (assignEach (e :: r) env) = (false, assign e env) :: (assignEach r env) := by cases e <;> first | rfl | cases h
theorem as_cons {e : Expr} {r : List Expr} {t : A1} {tr : As} (h : SoundA X n sc names e t) (hr : SoundAs X n sc names r tr) (hn : notStar e = true) : SoundAs X n sc names (e :: r) (asCons t tr) := fun env A κ P ls σ s Q vs us eo rm S rs q => by
  match vs, us, rs with
  | [], [], _ => exact q.elim
  | v :: vs, u :: us, ⟨r, rs⟩ =>
    rw [assignEach_cons hn, List.map_cons]
    refine assignInOrder_cons (wpAny_mono (h env A κ P ls σ s _ v u eo rm S r q) (fun _ s' ⟨κ', σ', ls', g, S', q⟩ => ?_) fun _ _ e => e)
    exact wpAny_mono (hr env A κ' P ls' σ' s' Q vs us eo rm S' (g.vs rs) q) (fun _ _ z => z.from g) fun _ _ e => e
theorem a_tup {es : List Expr} {k : Nat} {tr : As} {m : Nat} (h : SoundAs X n sc names es tr) (hm : es.length = m) (hn : es.all notStar = true) : SoundA X n sc names (.Tuple es k pos) (aTup m tr) := fun env A κ P ls σ s Q v u eo rm S r q => by
  obtain ⟨l, e, hl, q⟩ := ob_ex q
  obtain ⟨t, us, rfl, T, rs⟩ := vitems_ok r e
  have hlen : ∀ (es : List Expr), es.all notStar = true → (assignEach es env).length = es.length ∧ (assignEach es env).findIdx? (·.1) = none := by
    intro es
    induction es with
    | nil => exact fun _ => ⟨rfl, rfl⟩
    | cons e r ih =>
      intro h
      rw [List.all_cons, Bool.and_eq_true] at h
      obtain ⟨a, b⟩ := ih h.2
      rw [assignEach_cons h.1]
      exact ⟨by simp [a], by simp [List.findIdx?_cons, b]⟩
  rw [assign_Tuple]
  refine wpAny_bind (wpAny_standAt ?_)
  unfold unpack
  rw [(hlen es hn).1, (hlen es hn).2, show es.length = us.toArray.size by rw [List.size_toArray, ← rs.length, hl, hm]]
  refine wpAny_bind (wpAny_holding (wpAny_mono (wpAny_grow (unpackItems_tuple (Q := fun us' s' => us' = us.toArray.toList ∧ ∃ h', Heap.ExtBut s.heap.objs.size s.heap h' ∧ s' = { s with heap := h' }) rm.h T fun h' he => ⟨rfl, h', he, rfl⟩)) (fun us' s' ⟨⟨e1, h', he, e2⟩, hz⟩ => ?_) fun _ _ e => e))
  subst e1 e2
  obtain ⟨kt, S'⟩ := S.extBut (Nat.le_refl _) he hz
  exact wpAny_mono (h env A κ P ls σ _ Q l us' eo rm S' (rs.mono (fun _ _ z => z) kt) q) (fun _ _ z => z.from ⟨fun _ _ e => e, kt⟩) fun _ _ e => e
theorem a_fld {o : Expr} {x : Str} {f : Nat} {t : E1} (h : SoundE X n sc names o t) (hx : X.fname[f]? = some x) : SoundA X n sc names (.Attribute o x pos) (aFld t f) := fun env A κ P ls σ s Q v u eo rm S r q => by
  rw [arm_assign_Attribute]
  refine wpAny_bind (wpAny_holding (h.run eo rm S q fun κ₁ σ₁ s₁ w u₁ g₁ S₁ r₁ q => wpAny_bind (wpAny_standAt (wpAny_bind (wpAny_holding ?_)))))
  split at q
  · obtain ⟨rfl, hk⟩ := r₁
    exact S₁.setF hk hx (g₁.v r) fun s₃ kt S₃ => wpAny_release ⟨κ₁, _, ls, (g₁.kt kt), S₃, q⟩
  · exact q.elim
end
def sAsg (t : E1) (a : A1) (ls : Ls) (σ : H) (Q : Fl → Ls → H → Prop) : Prop := t ls σ fun v σ => a v ls σ fun ls σ => Q .next ls σ
section
variable {X : GC} {κ : Km} {P : Addr → Obj → Prop} {env : Env} {names : List Str} {ls : Ls} {σ : H} {s s' : Shared} {n : Nat} {sc : Scope} {A : Around} {pos : Pos}
theorem t_asg {es : List Expr} {k : Nat} {tp : Pos} {e : Expr} {t : E1} {a : A1} (h : SoundE X n sc names e t) (ha : SoundA X n sc names (.Tuple es k tp) a)
    (hs : ∀ env, swapsWithSole [.Tuple es k tp] e pos.line env = pure false) (hw : ∀ env, env.scope = sc → swappedStores [.Tuple es k tp] e env = pure none) : SoundS X n sc names (.Assign [.Tuple es k tp] e pos) (sAsg t a) := fun env A κ P ls σ s Q eo rm S q =>
  PyProof.Rows.Assign_Tuple (h.run eo rm S q fun κ₁ σ₁ s₁ v u g₁ S₁ r₁ q => wpAny_mono (ha env A κ₁ P ls σ₁ s₁ _ v u eo rm S₁ r₁ q) (fun _ s₂ ⟨κ₂, σ₂, ls₂, g₂, S₂, q⟩ => ⟨κ₂, σ₂, ls₂, .next, g₁.trans g₂, S₂, rfl, q⟩) fun _ _ e => e) (hs env) (hw env eo.scope)
def sSwap2 (t : E1) (i j : Nat) (ls : Ls) (σ : H) (Q : Fl → Ls → H → Prop) : Prop := t ls σ fun v σ => match v with | .p2 a b => Q .next ((ls.set j (some b)).set i (some a)) σ | _ => False
def sSwap3 (t : E1) (i j k : Nat) (ls : Ls) (σ : H) (Q : Fl → Ls → H → Prop) : Prop := t ls σ fun v σ => match v with | .p3 a b c => Q .next (((ls.set k (some c)).set j (some b)).set i (some a)) σ | _ => False
theorem t_swap2 {es : List Expr} {k : Nat} {tp : Pos} {e : Expr} {t : E1} {i j : Nat} {x y : Str} (h : SoundE X n sc names e t) (hx : names[i]? = some x) (hy : names[j]? = some y) (kx : sc.names.lookup x = some .local) (ky : sc.names.lookup y = some .local)
    (hs : ∀ env, swapsWithSole [.Tuple es k tp] e pos.line env = pure false) (hw : ∀ env, env.scope = sc → swappedStores [.Tuple es k tp] e env = pure (some [x, y])) : SoundS X n sc names (.Assign [.Tuple es k tp] e pos) (sSwap2 t i j) := fun env A κ P ls σ s Q eo rm S q => by
  refine Assign_Tuple_swapped (h.run eo rm S q fun κ₁ σ₁ s₁ v u g₁ S₁ r₁ q => ?_) (hs env) (hw env eo.scope)
  split at q
  · obtain ⟨a, u1, u2, rfl, T, r1, r2⟩ := r₁
    refine wpAny_mono (wpAny_grow (unpackItems_tuple (items := #[u1, u2]) (Q := fun us' s' => us' = [u1, u2] ∧ ∃ h', Heap.ExtBut s₁.heap.objs.size s₁.heap h' ∧ s' = { s₁ with heap := h' }) rm.h T.2 fun h' he => ⟨rfl, h', he, rfl⟩)) (fun us' s' ⟨⟨e1, h', he, e2⟩, hz⟩ => ?_) fun _ _ e => e
    subst e1 e2
    obtain ⟨kt, S'⟩ := S₁.extBut (Nat.le_refl _) he hz
    have G : Go κ κ₁ s { s₁ with heap := h' } := (g₁.kt kt)
    refine assignInOrder_cons (wpAny_bindName (S'.store eo hy (.inl ky) (r2.mono (fun _ _ z => z) kt) fun s₂ kt₂ S₂ => ?_))
    refine assignInOrder_cons (wpAny_bindName (S₂.store eo hx (.inl kx) ((r1.mono (fun _ _ z => z) kt).mono (fun _ _ z => z) kt₂) fun s₃ kt₃ S₃ => assignInOrder_nil ?_))
    exact ⟨κ₁, σ₁, _, .next, ((G.kt kt₂).kt kt₃), S₃, rfl, q⟩
  · exact q.elim
theorem t_swap3 {es : List Expr} {k : Nat} {tp : Pos} {e : Expr} {t : E1} {i j l : Nat} {x y z : Str} (h : SoundE X n sc names e t) (hx : names[i]? = some x) (hy : names[j]? = some y) (hzz : names[l]? = some z) (kx : sc.names.lookup x = some .local) (ky : sc.names.lookup y = some .local) (kz : sc.names.lookup z = some .local)
    (hs : ∀ env, swapsWithSole [.Tuple es k tp] e pos.line env = pure false) (hw : ∀ env, env.scope = sc → swappedStores [.Tuple es k tp] e env = pure (some [x, y, z])) : SoundS X n sc names (.Assign [.Tuple es k tp] e pos) (sSwap3 t i j l) := fun env A κ P ls σ s Q eo rm S q => by
  refine Assign_Tuple_swapped (h.run eo rm S q fun κ₁ σ₁ s₁ v u g₁ S₁ r₁ q => ?_) (hs env) (hw env eo.scope)
  split at q
  · obtain ⟨a, u1, u2, u3, rfl, T, r1, r2, r3⟩ := r₁
    refine wpAny_mono (wpAny_grow (unpackItems_tuple (items := #[u1, u2, u3]) (Q := fun us' s' => us' = [u1, u2, u3] ∧ ∃ h', Heap.ExtBut s₁.heap.objs.size s₁.heap h' ∧ s' = { s₁ with heap := h' }) rm.h T.2 fun h' he => ⟨rfl, h', he, rfl⟩)) (fun us' s' ⟨⟨e1, h', he, e2⟩, hz⟩ => ?_) fun _ _ e => e
    subst e1 e2
    obtain ⟨kt, S'⟩ := S₁.extBut (Nat.le_refl _) he hz
    have G : Go κ κ₁ s { s₁ with heap := h' } := (g₁.kt kt)
    have m : ∀ {h₀ h' : Heap} {v : V} {u : Value}, KeepT κ₁ h₀ h' → VRel κ₁ h₀ v u → VRel κ₁ h' v u := fun k r => r.mono (fun _ _ z => z) k
    refine assignInOrder_cons (wpAny_bindName (S'.store eo hzz (.inl kz) (m kt r3) fun s₂ kt₂ S₂ => ?_))
    refine assignInOrder_cons (wpAny_bindName (S₂.store eo hy (.inl ky) (m kt₂ (m kt r2)) fun s₃ kt₃ S₃ => ?_))
    refine assignInOrder_cons (wpAny_bindName (S₃.store eo hx (.inl kx) (m kt₃ (m kt₂ (m kt r1))) fun s₄ kt₄ S₄ => assignInOrder_nil ?_))
    exact ⟨κ₁, σ₁, _, .next, (((G.kt kt₂).kt kt₃).kt kt₄), S₄, rfl, q⟩
  · exact q.elim
end
end
section
open PyProof.V PySem.Spec
section
variable {prog : Program} {w : World} {A : Around} {E : Value → Shared → Prop} {s : Shared}
theorem setItem_upd {l : Addr} {items : Array Value} {n : Nat} {k : Int} {t : Tok} {v : Value} {Q : Unit → Shared → Prop} (ho : s.heap.get? l = some { cls := .type "list", data := .seq items n })
    (h0 : 0 ≤ k) (hfit : k < 2 ^ 63) (hn : k < items.size)
    (hQ : ∀ h' m, h'.get? l = some { cls := .type "list", data := .seq (items.setIfInBounds k.toNat v) m } → Heap.SameBut l s.heap h' → Q () { s with heap := h' }) :
    wpAny (model prog w) A (setItem (.ref l) (.int k t) v) Q E s := by
  have hl : s.heap.IsList l items := ⟨_, ho, rfl, n, rfl⟩
  unfold setItem
  refine wpAny_holding (wpAny_bind (wpAny_sequenceKey hl.typeIs (by decide) ?_))
  refine wpAny_bind (wpAny_callSpecial?_slot (name := Str.ofString "__setitem__") hl.typeIs slot_list_setitem
    (wpAny_call_entry slot_list_setitem hl.typeIs entry_list_setitem ?_ (args_list_setitem _ _ _)))
  show wpAny _ _ (Builtin.List.listSubscript? (.int k t) >>= _) _ _ s
  refine wpAny_bind (wpAny_listSubscript_int (fitsIndex_of h0 hfit) ?_)
  clear hfit
  obtain ⟨j, rfl⟩ := Int.eq_ofNat_of_zero_le h0
  have hj : j < items.size := Int.ofNat_lt.mp hn
  show wpAny _ _ ((seqItemAt l j >>= fun r => pure (r.map (j, ·))) >>= _) _ _ s
  refine wpAny_bind (wpAny_bind (wpAny_seqItemAt ho rfl (wpAny_pure ?_)))
  rw [Array.getElem?_eq_getElem hj]
  show wpAny _ _ (setSeqItemAt l j v >>= _) _ _ s
  refine wpAny_bind (wpAny_setSeqItemAt ho rfl ?_)
  have fin : Q () { s with heap := s.heap.update l (Obj.mapSeq (·.setIfInBounds j v)) } := hQ _ _ (Heap.get?_update_self _ ho rfl) (Heap.SameBut.update ..)
  first
    | exact wpAny_bind (wpAny_pure (wpAny_pure ⟨.none, rfl, wpAny_pure fin⟩))
    | exact wpAny_pure ⟨.none, rfl, wpAny_pure fin⟩
end
def vput (o i v : V) (σ : H) (Q : H → Prop) : Prop := onR o fun k x => match k with
  | .lst k => onI i fun j => (0 ≤ j ∧ j < 1000 ∧ j.toNat < (σ.lst k x).length) ∧ Q (σ.setL k x ((σ.lst k x).set j.toNat v))
  | .dS k => onS i fun y => (σ.dS k x).1.length ≤ 1000 ∧ ∀ e, Q (σ.setS k x (dput (σ.dS k x).1 y v) e)
  | .dI k => onI i fun y => (σ.dI k x).length ≤ 1000 ∧ Q (σ.setI k x (dput (σ.dI k x) y v))
  | .dT k => onT i fun y z => (σ.dT k x).length ≤ 1000 ∧ Q (σ.setT k x (dput (σ.dT k x) (y, z) v))
  | _ => False
def sPutI (t o i : E1) (ls : Ls) (σ : H) (Q : Fl → Ls → H → Prop) : Prop := t ls σ fun v σ => o ls σ fun a σ => i ls σ fun b σ => vput a b v σ fun σ => Q .next ls σ
section
variable {X : GC} {κ : Km} {P : Addr → Obj → Prop} {env : Env} {names : List Str} {ls : Ls} {σ : H} {s s' : Shared} {n : Nat} {sc : Scope} {A : Around} {pos : Pos}
theorem vput_ok {o i v : V} {uo ui uv : Value} {Q : H → Prop} {R : Unit → Shared → Prop} (rm : Rm n A) (S : St X κ P env names ls σ s) (r1 : VRel κ s.heap o uo) (r2 : VRel κ s.heap i ui) (r3 : VRel κ s.heap v uv) (q : vput o i v σ Q)
    (kk : ∀ σ' s', KeepT κ s.heap s'.heap → St X κ P env names ls σ' s' → Q σ' → R () s') : wpAny X.M A (setItem uo ui uv) R no s := by
  replace q := onR_ex q; obtain ⟨k, x, rfl, q⟩ := q
  obtain ⟨rfl, ha⟩ := r1
  cases k <;> first | exact q.elim | skip
  · replace q := onI_ex q; obtain ⟨j, rfl, ⟨h0, h1, h2⟩, q⟩ := q; obtain ⟨t, rfl⟩ := r2
    obtain ⟨vs, m, ho, rs⟩ := S.w.cell _ _ ha
    have hl := rs.length
    refine setItem_upd ho h0 (by exact pc12) (by rw [rs.length] at h2; exact (Int.toNat_lt h0).mp h2) fun h' m' ho' hs => ?_
    obtain ⟨kt, S'⟩ := S.setL (s' := { s with heap := h' }) ha (vs := vs.setIfInBounds _ uv) (by rw [Array.toList_setIfInBounds]; exact rs.set _ r3) hs ho' rfl rfl
    exact kk _ _ kt S' q
  · replace q := onS_ex q; obtain ⟨y, rfl, hz, q⟩ := q; obtain ⟨t, rfl⟩ := r2
    obtain ⟨kvs, D, rs⟩ := S.w.cell _ _ ha
    refine wpAny_setItem_pairs (strKind_is X.prog X.w _ t) D.dictOf (fun h' D' hs => ?_) (len_line (rs.length ▸ hz))
    obtain ⟨e, kt, S'⟩ := S.setS (s' := { s with heap := h', toks := s.toks + 1 }) ha D' (rs.dput r3) hs rfl rfl
    exact kk _ _ kt S' (q e)
  · replace q := onI_ex q; obtain ⟨y, rfl, hz, q⟩ := q; obtain ⟨t, rfl⟩ := r2
    obtain ⟨kvs, D, rs⟩ := S.w.cell _ _ ha
    refine wpAny_setItem_pairs (intKind_is X.prog X.w _ t) D (fun h' D' hs => ?_) (len_line (rs.length ▸ hz))
    obtain ⟨kt, S'⟩ := S.setI (s' := { s with heap := h', toks := s.toks + 1 }) ha D' (rs.dput r3) hs rfl rfl
    exact kk _ _ kt S' q
  · replace q := onT_ex q; obtain ⟨y, z, rfl, hz, q⟩ := q
    obtain ⟨b, rfl, hk, hκb⟩ := tkey_of (X := X) r2
    obtain ⟨kvs, D, rs⟩ := S.w.cell _ _ ha
    refine wpAny_setItem_heap (knd := tupleKind (mixKind X.prog X.w)) (tupleKind_room_in1 (rm.c 1)) hk D (fun h' D' hs => ?_) (len_line (rs.length ▸ hz))
    obtain ⟨kt, S'⟩ := S.setT (s' := { s with heap := h', toks := _ }) ha D' (rs.dput r3 hκb) hs rfl rfl
    exact kk _ _ kt S' q
theorem t_putI {e o i : Expr} {px : Pos} {t t1 t2 : E1} (h : SoundE X n sc names e t) (h1 : SoundE X n sc names o t1) (h2 : SoundE X n sc names i t2) (hs : ∀ env, swapsWith e (some (.Subscript o i px)) pos.line env = pure false := by exact fun _ => rfl) :
    SoundS X n sc names (.Assign [.Subscript o i px] e pos) (sPutI t t1 t2) := fun env A κ P ls σ s Q eo rm S q =>
  wpAny_Assign_Subscript (h.run eo rm S q fun κ₁ σ₁ s₁ v u g₁ S₁ r q => h1.run eo rm S₁ q fun κ₂ σ₂ s₂ a ua g₂ S₂ r₂ q => h2.run eo rm S₂ q fun κ₃ σ₃ s₃ b ub g₃ S₃ r₃ q =>
    vput_ok rm S₃ (g₃.v r₂) r₃ (g₃.v (g₂.v r)) q fun σ₄ s₄ kt S₄ q => ⟨κ₃, σ₄, ls, .next, (((g₁.trans g₂).trans g₃).kt kt), S₄, rfl, q⟩) (hs env)
def sAug (i : Nat) (t : E1) (ls : Ls) (σ : H) (Q : Fl → Ls → H → Prop) : Prop := ob ls[i]? fun w => ob w fun v0 => match v0 with | .int x => (t ls σ fun v σ => match v with | .int y => Q .next (ls.set i (some (.int (x + y)))) σ | _ => False) | _ => False
def sAugF (o : E1) (f : Nat) (t : E1) (ls : Ls) (σ : H) (Q : Fl → Ls → H → Prop) : Prop := o ls σ fun a σ => match a with
  | .ref (.inst c) a => ∃ x, σ.fld c a f = some (.int x) ∧ t ls σ fun v σ => match v with | .int y => Q .next ls (σ.setF c a f (.int (x + y))) | _ => False
  | _ => False
theorem t_aug {i : Nat} {x : Str} {px : Pos} {e : Expr} {t : E1} (h : SoundE X n sc names e t) (hx : names[i]? = some x) (hk : sc.names.lookup x = some .local ∨ sc.names.lookup x = some .cell) (hn : (x == ("__classdict__" : Str)) = false) :
    SoundS X n sc names (.AugAssign (.Name x px) .Add e pos) (sAug i t) := fun env A κ P ls σ s Q eo rm S q => by
  obtain ⟨v₀, hv', q⟩ := ob_ex q
  obtain ⟨v₁, hv'', q⟩ := ob_ex q
  have hv := hv'.trans (congrArg some hv'')
  cases v₁ <;> first | exact q.elim | skip
  rename_i x₀
  refine wpAny_AugAssign_Name (S.loc eo hx hv hn fun u hu => ?_)
  obtain ⟨t₀, rfl⟩ := hu
  refine h.run eo rm S q fun κ₁ σ₁ s₁ v u g₁ S₁ r q => ?_
  split at q
  · obtain ⟨t₁, rfl⟩ := r
    refine iadd_int ?_
    exact (S₁.toks _).store eo hx hk (v := .int _) ⟨_, rfl⟩ fun s'' kt S'' => ⟨κ₁, σ₁, _, .next, (g₁.kt kt), S'', rfl, q⟩
  · exact q.elim
theorem t_augF {o : Expr} {x : Str} {f : Nat} {px : Pos} {e : Expr} {t to : E1} (h : SoundE X n sc names e t) (h' : SoundE X n sc names o to) (hx : X.fname[f]? = some x) :
    SoundS X n sc names (.AugAssign (.Attribute o x px) .Add e pos) (sAugF to f t) := fun env A κ P ls σ s Q eo rm S q => by
  refine wpAny_AugAssign_AttributeAny (h'.run eo rm S q fun κ₁ σ₁ s₁ v u g₁ S₁ r q => ?_)
  split at q
  · obtain ⟨rfl, hk⟩ := r
    obtain ⟨x₀, hv, q⟩ := q
    refine S₁.w.getF hk hx hv fun u' hu' => ?_
    obtain ⟨t₀, rfl⟩ := hu'
    refine h.run eo rm (S₁.toks _) q fun κ₂ σ₂ s₂ v u g₂ S₂ r q => ?_
    split at q
    · obtain ⟨t₁, rfl⟩ := r
      refine iadd_int ?_
      exact (S₂.toks _).setF (g₂.k _ _ hk) hx (v := .int _) ⟨_, rfl⟩ fun s₃ kt S₃ => ⟨κ₂, _, ls, .next, ((Go.trans (t := s₁) g₁ ⟨g₂.k, g₂.t⟩).kt kt), S₃, rfl, q⟩
    · exact q.elim
  · exact q.elim
end
end
section
open PyProof.V PySem.Spec
theorem bindL_not {kindOf : Str → Option NameKind} {x : Str} : ∀ {ps : List Str} {us : List Value} {m : Str → Option Value}, x ∉ ps → bindL kindOf (ps.zip us) m x = m x
  | [], _, _, _ => rfl
  | _ :: _, [], _, _ => rfl
  | p :: ps, u :: us, m, h => by
    show bindL kindOf (ps.zip us) _ x = _
    rw [bindL_not (fun q => h (.tail _ q))]
    split
    · exact if_neg fun (e : x = p) => h (by rw [e]; exact .head _)
    · rfl
theorem bindC_not {kindOf : Str → Option NameKind} {x : Str} : ∀ {ps : List Str} {us : List Value} {m : Str → Option Value}, x ∉ ps → bindC kindOf (ps.zip us) m x = m x
  | [], _, _, _ => rfl
  | _ :: _, [], _, _ => rfl
  | p :: ps, u :: us, m, h => by
    show bindC kindOf (ps.zip us) _ x = _
    rw [bindC_not (fun q => h (.tail _ q))]
    split
    · rfl
    · exact if_neg fun (e : x = p) => h (by rw [e]; exact .head _)
theorem bindL_at {kindOf : Str → Option NameKind} {x : Str} (hk : kindOf x = some .local) : ∀ {ps : List Str} {us : List Value} {m : Str → Option Value} {i : Nat} {u : Value}, ps.Nodup → ps[i]? = some x → us[i]? = some u → bindL kindOf (ps.zip us) m x = some u
  | p :: ps, u' :: us, m, 0, u, nd, h1, h2 => by
    obtain rfl : p = x := by simpa using h1
    obtain rfl : u' = u := by simpa using h2
    show bindL kindOf (ps.zip us) _ p = _
    rw [bindL_not (List.nodup_cons.mp nd).1, if_pos hk]
    exact if_pos rfl
  | p :: ps, u' :: us, m, i + 1, u, nd, h1, h2 => by
    show bindL kindOf (ps.zip us) _ x = _
    exact bindL_at hk (List.nodup_cons.mp nd).2 (by simpa using h1) (by simpa using h2)
  | [], _, _, _, _, _, h, _ => by simp at h
  | _ :: _, [], _, _, _, _, _, h => by simp at h
theorem bindC_at {kindOf : Str → Option NameKind} {x : Str} (hk : kindOf x = some .cell) : ∀ {ps : List Str} {us : List Value} {m : Str → Option Value} {i : Nat} {u : Value}, ps.Nodup → ps[i]? = some x → us[i]? = some u → bindC kindOf (ps.zip us) m x = some u
  | p :: ps, u' :: us, m, 0, u, nd, h1, h2 => by
    obtain rfl : p = x := by simpa using h1
    obtain rfl : u' = u := by simpa using h2
    show bindC kindOf (ps.zip us) _ p = _
    rw [bindC_not (List.nodup_cons.mp nd).1, if_neg (by rw [hk]; simp)]
    exact if_pos rfl
  | p :: ps, u' :: us, m, i + 1, u, nd, h1, h2 => by
    show bindC kindOf (ps.zip us) _ x = _
    exact bindC_at hk (List.nodup_cons.mp nd).2 (by simpa using h1) (by simpa using h2)
  | [], _, _, _, _, _, h, _ => by simp at h
  | _ :: _, [], _, _, _, _, _, h => by simp at h
theorem cellsFrom_acc {x : Str} : ∀ {l : List (Str × NameKind)} {n : Nat} {acc : List (Str × Addr)}, x ∈ acc.map (·.1) → x ∈ (cellsFrom n l acc).map (·.1)
  | [], _, _, h => h
  | (y, k) :: r, n, acc, h => by
    unfold cellsFrom
    split
    · exact cellsFrom_acc (by rw [List.map_cons]; exact .tail _ h)
    · exact cellsFrom_acc h
theorem cellsFrom_mem {x : Str} : ∀ {l : List (Str × NameKind)} {n : Nat} {acc : List (Str × Addr)}, (x, NameKind.cell) ∈ l → x ∈ (cellsFrom n l acc).map (·.1)
  | (y, k) :: r, n, acc, h => by
    unfold cellsFrom
    cases h with
    | head => rw [if_pos (by decide)]; exact cellsFrom_acc (by rw [List.map_cons]; exact .head _)
    | tail _ h =>
      split
      · exact cellsFrom_mem h
      · exact cellsFrom_mem h
theorem look_some_of_mem {α : Type} {x : Str} : ∀ {l : List (Str × α)}, x ∈ l.map (·.1) → ∃ c, l.lookup x = some c
  | (y, c) :: r, h => by
    rw [List.lookup_cons]
    split
    · exact ⟨c, rfl⟩
    · rename_i q
      rw [List.map_cons] at h
      cases h with
      | head => simp at q
      | tail _ h => exact look_some_of_mem h
def fDef (m k : Nat) (t : S1) (vs : List V) (σ : H) (Q : V → H → Prop) : Prop := vs.length = m ∧ t (vs.map some ++ List.replicate k none) σ fun fl _ σ => Q (match fl with | .ret v => v | .next => .none) σ
section
variable {X : GC} {n : Nat}
theorem f_def {f : Addr} {name qual : Str} {params : Arguments} {body : List Stmt} {scope : Scope} {dV kV doc pm cdv ct oc : Value} {an od : Option Addr} {osl : Array (Option Value)} {ps rest : List Str} {t : S1} {m k : Nat}
    (ho : X.K.lookup f = some ⟨oc, od, .func (fnOf name qual params body scope dV kV doc pm an cdv ct), osl⟩) (hcd : codeIn X.K cdv qual = true)
    (hbind : ∀ us : List Value, us.length = m → bindArgs (fnOf name qual params body scope dV kV doc pm an cdv ct) ⟨us, []⟩ = pure (ps.zip us))
    (hm : ps.length = m) (hr : rest.length = k) (nd : (ps ++ rest).Nodup)
    (hkind : ps.all (fun x => scope.names.lookup x == some .local || scope.names.lookup x == some .cell) = true)
    (hnd : ((cellsFrom 0 scope.names []).map (·.1)).Nodup)
    (hb : SoundB X n scope (ps ++ rest) body t)
    (hco : scope.isCoroutine = false := by rfl) (hgen : scope.isGenerator = false := by rfl) (hk : scope.kind = .function := by rfl) : SoundF X (n + 1) f (fDef m k t) := by
  intro A κ P σ s Q vs us rm W rs ⟨hl, q⟩
  have hlu : us.length = m := rs.length ▸ hl
  have room : A.depth < recursionLimit := Nat.lt_of_lt_of_le (Nat.lt_add_of_pos_right (Nat.succ_pos n)) rm.d
  have kin := W.kin
  have hkx : ∀ x ∈ ps, scope.names.lookup x = some .local ∨ scope.names.lookup x = some .cell := fun x hx => by
    have := List.all_eq_true.mp hkind x hx
    simpa [Bool.or_eq_true, beq_iff_eq] using this
  have hcs : ∀ x n', scope.names.lookup x = some .cell → ∃ c, (cellsFrom n' scope.names []).lookup x = some c := fun x n' hx => look_some_of_mem (cellsFrom_mem (mem_of_lookup hx))
  refine codeAny_call_function room (kin _ _ ho) rfl hco hgen rfl (codeRec_of kin hcd) ?_
  refine (BindsTo.of_eq (s := s) (hbind us hlu)) _ _ _ _ ?_
  refine wpAny_newFunctionEnv_cells hk (fun x hx => ?_) fun env' he s' x => ?_
  · obtain ⟨hx1, _⟩ := List.of_mem_zip (a := x.1) (b := x.2) hx
    rcases hkx _ hx1 with h | h
    · exact .inl h
    · obtain ⟨c, hc⟩ := hcs _ (s.heap.objs.size + 1) h
      exact .inr ⟨h, by rw [hc]; rfl⟩
  subst he
  obtain ⟨h₁, tk, rfl⟩ := x.toInCall.same
  have keep := x.toInCall.keep
  have szL : s.heap.objs.size < h₁.objs.size := x.toInCall.ns.lt
  have W' : Wf X κ P σ { s with heap := h₁, toks := tk } := W.ext keep (Nat.le_of_lt szL) rfl rfl
  refine ⟨X.lim.keeps W'.base, codeAny_func ?_⟩
  have kt : KeepT κ s.heap h₁ := KeepT.of keep
  have cellAt : ∀ y c, (y, c) ∈ cellsFrom (s.heap.objs.size + 1) scope.names [] → h₁.IsCell c (bindC (newEnv scope s.heap.objs.size mainGlobals (cellsFrom (s.heap.objs.size + 1) scope.names []) (qual ++ Str.ofString ".<locals>.") (some f) cdv none builtinsNs).kindOf (ps.zip us) (fun _ => none) y) := fun y c hm =>
    x.cell y c (lookup_of_mem_nodup (cellsFrom_names scope.names 0 (s.heap.objs.size + 1) [] [] rfl ▸ hnd) hm)
  have cellEx : ∀ y, scope.names.lookup y = some .cell → ∃ c, (cellsFrom (s.heap.objs.size + 1) scope.names []).lookup y = some c := fun y h => hcs y _ h
  have ndp : ps.Nodup := (List.nodup_append.mp nd).1
  have S : St X κ P (newEnv scope s.heap.objs.size mainGlobals (cellsFrom (s.heap.objs.size + 1) scope.names []) (qual ++ Str.ofString ".<locals>.") (some f) cdv none builtinsNs) (ps ++ rest) (vs.map some ++ List.replicate k none) σ { s with heap := h₁, toks := tk } := by
    refine ⟨W', ⟨fun a ha => ?_, by simp [hl, hm, hr], ⟨_, x.toInCall.ns, fun i y v h1 h2 => ?_⟩, fun y hy => ?_, nd, fun y z c h1 h2 => ?_⟩⟩
    · rcases ha with rfl | ⟨y, hy⟩
      · have F := W.fresh (x := s.heap.objs.size) (Nat.le_refl _)
        exact ⟨F.k, F.b, F.p, ns_notSeq x.toInCall.ns⟩
      · have F := W.fresh (x := a) (Nat.le_of_lt (x.above y a hy))
        exact ⟨F.k, F.b, F.p, isCell_notSeq (cellAt y a hy)⟩
    · have hi : i < vs.length := by
        rcases Nat.lt_or_ge i vs.length with z | z
        · exact z
        · rw [List.getElem?_append_right (by simpa using z), List.getElem?_replicate] at h2
          split at h2 <;> simp at h2
      rw [List.getElem?_append_left (by simpa using hi), List.getElem?_map] at h2
      have hv : vs[i]? = some v := by
        cases q : vs[i]? with
        | none => rw [q] at h2; simp at h2
        | some v' => rw [q] at h2; simp at h2; rw [h2]
      obtain ⟨u, hu, hvu⟩ := rs.get hv
      have hy : ps[i]? = some y := by rw [List.getElem?_append_left (by rw [hm, ← hl]; exact hi)] at h1; exact h1
      have hyp : y ∈ ps := List.mem_of_getElem? hy
      refine ⟨u, hvu.mono (fun _ _ z => z) kt, ?_⟩
      rcases hkx y hyp with z | z
      · exact .inl ⟨z, bindL_at z ndp hy hu⟩
      · obtain ⟨c, hc⟩ := cellEx y z
        refine .inr ⟨.inl z, c, hc, ?_⟩
        have := cellAt y c (mem_of_look hc)
        rwa [bindC_at z ndp hy hu] at this
    · obtain ⟨c, hc⟩ := cellEx y hy
      exact ⟨c, _, hc, cellAt y c (mem_of_look hc)⟩
    · have ap := x.apart
      have m1 := mem_of_look h1; have m2 := mem_of_look h2
      by_cases e : z = y
      · exact e
      · exfalso
        have pw : ∀ (l : List (Str × Addr)), l.Pairwise (fun x y => x.2 ≠ y.2) → (y, c) ∈ l → (z, c) ∈ l → False := by
          intro l hp a b
          induction hp with
          | nil => cases a
          | cons h _ ih =>
            cases a with
            | head => cases b with
              | head => exact e rfl
              | tail _ b => exact h _ b rfl
            | tail _ a => cases b with
              | head => exact h _ a rfl
              | tail _ b => exact ih a b
        exact pw _ ap m1 m2
  refine wpAny_mono (hb _ _ κ P _ σ _ _ ⟨rfl, hk, rfl, rfl⟩ (rm.deeper) S q) (fun fl s₂ ⟨κ₂, σ₂, ls₂, fv, g₂, S₂, r, q⟩ => ?_) fun _ _ e => e.elim
  have G : Go κ κ₂ s s₂ := ⟨g₂.k, kt.trans (fun _ _ e => e) g₂.t⟩
  cases fv with
  | next => obtain rfl : fl = .next := r; exact ⟨κ₂, σ₂, .none, .none, rfl, G, S₂.w, rfl, q⟩
  | ret v => obtain ⟨u, rfl, hu⟩ := r; exact ⟨κ₂, σ₂, v, u, rfl, G, S₂.w, hu, q⟩
end
end
section
open PyProof.V PySem.Spec
def guardP (P : Addr → Obj → Prop) (env : Env) (h : Heap) : Addr → Obj → Prop := fun a o => P a o ∨ (isFA env a ∧ h.get? a = some o)
section
variable {X : GC} {κ κ' : Km} {P : Addr → Obj → Prop} {env : Env} {names : List Str} {ls : Ls} {σ σ' : H} {s s' : Shared} {n : Nat} {sc : Scope} {A : Around} {pos : Pos}
theorem St.leave (S : St X κ P env names ls σ s) : Wf X κ (guardP P env s.heap) σ s :=
  { S.w with
    prot := fun a o h => h.elim (S.w.prot a o) fun ⟨_, e⟩ => e
    apP := fun a k o e h => h.elim (S.w.apP a k o e) fun ⟨ha, _⟩ => by have := (S.f.free a ha).k; rw [e] at this; cases this }
theorem Wf.weaken {P' : Addr → Obj → Prop} (W : Wf X κ P' σ s) (h : ∀ a o, P a o → P' a o) : Wf X κ P σ s :=
  { W with prot := fun a o e => W.prot a o (h a o e), apP := fun a k o e q => W.apP a k o e (h a o q) }
theorem St.back (S : St X κ P env names ls σ s) (g : Go κ κ' s s') (W : Wf X κ' (guardP P env s.heap) σ' s') : St X κ' P env names ls σ' s' :=
  ⟨W.weaken fun a o h => .inl h, S.f.keep g.k g.t (fun a ha => by
      obtain ⟨o, ho, _⟩ := (S.f.free a ha).o
      cases e : κ' a with
      | none => rfl
      | some k => exact absurd (.inr ⟨ha, ho⟩) (W.apP a k o e))
    (fun a ha => (S.f.free a ha).p) (fun a o ha e => W.prot a o (.inr ⟨ha, e⟩))⟩
theorem St.call {f : Addr} {F : F1} {k : Nat} {vs : List V} {us : List Value} {Q : V → H → Prop} {R : Value → Shared → Prop} (S : St X κ P env names ls σ s) (hF : SoundF X k f F) (rm : Rm k A) (rs : VRels κ s.heap vs us) (q : F vs σ Q)
    (h : ∀ κ' σ' s' v u, Go κ κ' s s' → St X κ' P env names ls σ' s' → VRel κ' s'.heap v u → Q v σ' → R u s') : wpAny X.M A (call (.ref f) us) R no s :=
  wpAny_call (codeAny_mono (hF A κ (guardP P env s.heap) σ s Q vs us rm S.leave rs q) fun r s' ⟨κ', σ', v, u, e, g, W, r, q⟩ => by subst e; exact h κ' σ' s' v u g (S.back g W) r q)
end
def cal (F : F1) (vs : List V) (σ : H) (Q : V → H → Prop) : Prop := True ∧ F vs σ Q
def pCall (F : F1) (t : Es) (ls : Ls) (σ : H) (Q : V → H → Prop) : Prop := t ls σ fun vs σ => cal F vs σ Q
section
variable {X : GC} {n : Nat} {sc : Scope} {names : List Str} {pos : Pos}
theorem backTo_kw (pos : Pos) (env : Env) : backToKw pos (keywordEach [] env) = [] := rfl
theorem args_plain {es : List Expr} {t : Es} {κ : Km} {P : Addr → Obj → Prop} {env : Env} {ls : Ls} {σ : H} {s : Shared} {A : Around} {f : Value} {pos : Pos} {Q : List V → H → Prop} {R : Args → Shared → Prop} (h : SoundEs X n sc names es t) (hn : es.all notStar = true) (eo : EnvOk env sc) (rm : Rm n A) (S : St X κ P env names ls σ s) (q : t ls σ Q)
    (k : ∀ κ' σ' s' vs us, Go κ κ' s s' → St X κ' P env names ls σ' s' → VRels κ' s'.heap vs us → Q vs σ' → R ⟨us, []⟩ s') : wpAny X.M A (evalArgs f true (backTo pos (starEach es env)) []) R no s := by
  cases es with
  | nil =>
    have h2 : wpAny X.M A (spliced []) (PostEs X P env names ls κ s Q) no s := h env A κ P ls σ s Q pos eo rm S q
    show wpAny X.M A (evalArgs f true [] []) R no s
    unfold evalArgs
    show wpAny X.M A (spliced [] >>= _) R no s
    refine wpAny_bind (wpAny_mono h2 (fun us s' ⟨κ', σ', vs, g, S', rs, q⟩ => wpAny_holding ?_) fun _ _ e => e)
    simp only [List.all_nil, if_true]
    exact wpAny_bind (wpAny_evalAll_nil (wpAny_bind (wpAny_pure (wpAny_pure (k κ' σ' s' vs us g S' rs q)))))
  | cons e r =>
    rw [List.all_cons, Bool.and_eq_true] at hn
    rw [starEach_cons hn.1]
    refine Calls.evalArgs_plain ?_
    have := h.run (pos := pos) (R := fun us s' => R ⟨us, []⟩ s') eo rm S q k
    rw [starEach_cons hn.1] at this
    exact this
theorem any_false {es : List Expr} {env : Env} {pos : Pos} (hn : es.all notStar = true) : ((backTo pos (starEach es env)).any (·.1) || ([] : List (Option Str × Sem Value)).any (·.1.isNone)) = false := by
  induction es with
  | nil => rfl
  | cons e r ih =>
    rw [List.all_cons, Bool.and_eq_true] at hn
    have := ih hn.2
    rw [starEach_cons hn.1]
    simp only [backTo, List.map_cons, List.any_cons, Bool.false_or] at this ⊢
    exact this
theorem s_call {f : Str} {fp : Pos} {a : Addr} {F : F1} {k : Nat} {es : List Expr} {t : Es} (hx : sc.names.lookup f = some .globalImplicit) (e : nsIn X.K mainGlobals f = some (some (.ref a))) (hd : (f == ("__debug__" : Str)) = false) (hkp : keepIn X.K (.ref a) = true)
    (hF : SoundF X k a F) (hk : k ≤ n) (h : SoundEs X n sc names es t) (hn : es.all notStar = true) : SoundE X n sc names (.Call (.Name f fp) es [] pos) (pCall F t) := fun env A κ P ls σ s Q eo rm S q => by
  have hk' : env.scope.kind = .function := by rw [eo.scope]; exact eo.kind
  have hx' : env.kindOf f = some .globalImplicit := by unfold Env.kindOf; rw [eo.scope]; exact hx
  refine wpAny_Call_NameR (Name_function_global hk' hx' (loadGlobal_global (env := env) (mg := X.mg) (eo.g ▸ X.ng.keeps S.w.base) (mg_of X.KX X.ng e) ?_) hd)
  refine callWith_of (P := fun h => X.K.In h) (any_false hn) (fun h hh => let ⟨k, hk, L⟩ := looks_keep hkp hh; ⟨k, hk.imp id .inl, L⟩) ?_
  exact args_plain h hn eo rm S q fun κ₁ σ₁ s₁ vs us g₁ S₁ rs q => ⟨S₁.w.kin, S₁.call hF (rm.mono hk) rs q.2 fun κ₂ σ₂ s₂ v u g₂ S₂ r q => ⟨κ₂, σ₂, v, g₁.trans g₂, S₂, r, q⟩⟩
end
end
section
open PyProof.V PySem.Spec
noncomputable def H.newC (σ : H) (c : Nat) (a : Addr) : H := { σ with fld := fun c' a' => if c' = c ∧ a' = a then fun _ => none else σ.fld c' a', nxt := a + 1 }
def fNew (c : Nat) (F : F1) (vs : List V) (σ : H) (Q : V → H → Prop) : Prop := ∀ a, σ.nxt ≤ a → F (.ref (.inst c) a :: vs) (σ.newC c a) fun v σ => v = .none ∧ Q (.ref (.inst c) a) σ
theorem under_create {A : Around} {n : Nat} {a : Addr} {rest : List Value} {kw : List (Str × Value)} (h : Rm (n + 1) A) : Rm n (A.under (.builtin "type.__call__" ⟨.ref a :: rest, kw⟩)) := by
  have e : (Code.builtin "type.__call__" ⟨.ref a :: rest, kw⟩).weight = 1 := rfl
  have u : (Code.builtin "type.__call__" ⟨.ref a :: rest, kw⟩).cUnits = 1 := rfl
  refine ⟨?_, ?_, h.h⟩
  · show A.depth + _ + n ≤ _
    rw [e]; exact pb2 h.d
  · show A.units + _ + 4 * n + 200 ≤ _
    rw [u]; exact u_k h.u (by decide)
section
variable {X : GC} {n : Nat}
theorem Wf.newC {κ : Km} {P : Addr → Obj → Prop} {σ : H} {s : Shared} (W : Wf X κ P σ s) {c : Nat} (hc : c < X.ncls) :
    ∃ κ', Go κ κ' s { s with heap := (s.heap.push emptyDict).push (instObj (X.clsA c) s.heap.objs.size) } ∧ Wf X κ' P (σ.newC c (s.heap.objs.size + 1)) { s with heap := (s.heap.push emptyDict).push (instObj (X.clsA c) s.heap.objs.size) } ∧ κ' (s.heap.objs.size + 1) = some (.inst c) := by
  have h1 : ∀ a o, s.heap.get? a = some o → (s.heap.push emptyDict).get? a = some o := fun a o e => Heap.get?_push_of_some _ e
  have h2 : ∀ a o, (s.heap.push emptyDict).get? a = some o → ((s.heap.push emptyDict).push (instObj (X.clsA c) s.heap.objs.size)).get? a = some o := fun a o e => Heap.get?_push_of_some _ e
  have sz1 : (s.heap.push emptyDict).objs.size = s.heap.objs.size + 1 := Heap.size_push ..
  obtain ⟨W1, m1⟩ := W.alloc (s' := { s with heap := s.heap.push emptyDict }) (k := .idict) (a := s.heap.objs.size) (σ' := { σ with nxt := s.heap.objs.size + 1 }) (Nat.le_refl _) h1 (by rw [sz1]; exact Nat.lt_succ_self _) rfl rfl rfl trivial (fun _ _ _ => rfl) (fun _ _ _ => rfl) (fun _ _ _ => rfl) (fun _ _ _ => rfl) (fun _ _ _ => rfl)
  have kd : upd κ s.heap.objs.size .idict s.heap.objs.size = some .idict := upd_self _ _ _
  obtain ⟨W2, m2⟩ := W1.alloc (s' := { s with heap := (s.heap.push emptyDict).push (instObj (X.clsA c) s.heap.objs.size) }) (k := .inst c) (a := s.heap.objs.size + 1) (σ' := σ.newC c (s.heap.objs.size + 1)) (by rw [sz1]; exact Nat.le_refl _) h2
    (by rw [Heap.size_push, sz1]; exact Nat.lt_succ_self _) rfl rfl rfl
    ⟨hc, s.heap.objs.size, rfl, by rw [upd_ne (by exact Nat.ne_of_lt (Nat.lt_succ_self _))]; exact kd, by
        have := Heap.get?_push_size (s.heap.push emptyDict) (o := instObj (X.clsA c) s.heap.objs.size) rfl
        rw [sz1] at this; exact this, fun _ => none,
      ⟨_, #[], 0, h2 _ _ (Heap.get?_push_size _ rfl), rfl, fun _ he => by simp at he, by unfold UniqKeys; simp, fun _ => rfl⟩, by
        refine ⟨fun i x _ => ?_, fun _ _ => rfl⟩
        show (match (if c = c ∧ s.heap.objs.size + 1 = s.heap.objs.size + 1 then fun _ => none else σ.fld c _) i with | some v => _ | none => _)
        rw [if_pos ⟨rfl, rfl⟩]⟩
    (fun c' b hb => by show (if c' = c ∧ b = s.heap.objs.size + 1 then (fun _ => none) else σ.fld c' b) = _; rw [if_neg fun z => hb z.2]) (fun _ _ _ => rfl) (fun _ _ _ => rfl) (fun _ _ _ => rfl) (fun _ _ _ => rfl)
  exact ⟨_, ⟨fun a j e => m2 a j (m1 a j e), KeepT.of fun a o e => h2 a o (h1 a o e)⟩, W2, upd_self _ _ _⟩
theorem f_new {c : Nat} {fI : Addr} {F : F1} (hc : c < X.ncls) (hi : findIn X.K (.ref (X.clsA c)) "__init__" = some (some (.ref fI))) (ht : typeIn X.K (.ref fI) = some (.type "function")) (hF : SoundF X n fI F) : SoundF X (n + 1) (X.clsA c) (fNew c F) := by
  intro A κ P σ s Q vs us rm W rs q
  obtain ⟨hh, g, d, t, os⟩ := s
  have X' := W.kin
  obtain ⟨κ', G, W', hk⟩ := W.newC hc
  refine make_core (makes_of X' (X.clsM c hc)) (looks_findIn X' hi) (fun self => bind_fn X' self ht) (.inl rfl) ?_
  have q' := q (hh.objs.size + 1) (Nat.le_succ_of_le W.size)
  refine codeAny_mono (hF _ κ' P _ _ _ (.ref (.inst c) (hh.objs.size + 1) :: vs) (.ref (hh.objs.size + 1) :: us) (under_create rm) W' ⟨⟨rfl, hk⟩, G.vs rs⟩ q') fun r s' ⟨κ₂, σ₂, v, u, e, g₂, W₂, r₂, hv, q₂⟩ => ?_
  subst e hv
  obtain rfl : u = .none := r₂
  exact ⟨rfl, κ₂, σ₂, .ref (.inst c) (hh.objs.size + 1), _, rfl, G.trans g₂, W₂, ⟨rfl, g₂.k _ _ hk⟩, q₂⟩
end
def pMeth (tbl : List (Nat × F1)) (o : E1) (t : Es) (ls : Ls) (σ : H) (Q : V → H → Prop) : Prop := o ls σ fun v σ => match v with
  | .ref (.inst c) a => ob (tbl.lookup c) fun F => t ls σ fun vs σ => cal F (.ref (.inst c) a :: vs) σ Q
  | _ => False
structure MethOk (X : GC) (n : Nat) (name : Str) (c : Nat) (F : F1) : Prop where
  ex : ∃ f k, findIn X.K (.ref (X.clsA c)) name = some (some (.ref f)) ∧ typeIn X.K (.ref f) = some (.type "function") ∧ keepIn X.K (.ref f) = true ∧ SoundF X k f F ∧ k ≤ n
theorem lookup_mem {α : Type} {c : Nat} {x : α} : ∀ {l : List (Nat × α)}, l.lookup c = some x → (c, x) ∈ l
  | (y, d) :: r, e => by
    rw [List.lookup_cons] at e
    split at e
    · rename_i q; cases e; rw [eq_of_beq q]; exact .head _
    · exact .tail _ (lookup_mem e)
section
variable {X : GC} {n : Nat} {sc : Scope} {names : List Str} {pos apos : Pos}
theorem form_true {es : List Expr} {env : Env} {pos : Pos} {m : Nat} (hn : es.all notStar = true) (hm : m < 30) : methodCallForm m (backTo pos (starEach es env)) [] = true := by
  have : (backTo pos (starEach es env)).all (fun x => !x.1) = true := by
    induction es with
    | nil => rfl
    | cons e r ih =>
      rw [List.all_cons, Bool.and_eq_true] at hn
      have := ih hn.2
      rw [starEach_cons hn.1]
      simp only [backTo, List.map_cons, List.all_cons, Bool.not_false, Bool.true_and] at this ⊢
      exact this
  unfold methodCallForm
  rw [this]
  simp [hm]
theorem s_meth {o : Expr} {name : Str} {es : List Expr} {to : E1} {t : Es} {tbl : List (Nat × F1)} (ho : SoundE X n sc names o to) (h : SoundEs X n sc names es t) (hn : es.all notStar = true) (hm : es.length < 30) (hT : ∀ p ∈ tbl, MethOk X n name p.1 p.2) (hf : name ∉ X.fname)
    (hb : ∀ env, attributeBase o name env (eval o env) = eval o env := by exact fun _ => rfl) (hl : (apos.endLine == pos.line) = true := by rfl) : SoundE X n sc names (.Call (.Attribute o name apos) es [] pos) (pMeth tbl to t) := fun env A κ P ls σ s Q eo rm S q => by
  rw [arm_eval_Call, hb]
  refine wpAny_bind (ho.run eo rm S q fun κ₁ σ₁ s₁ v u g₁ S₁ r q => wpAny_bind (wpAny_standAt ?_))
  unfold methodCall
  rw [backTo_kw]
  have hform : methodCallForm (es.length + ([] : List Keyword).length) (backTo pos (starEach es env)) [] = true := form_true hn hm
  rw [hform]
  have hpos : methodCallPos true o env apos pos = pure pos := by unfold methodCallPos; simp [hl]
  split at q
  · obtain ⟨rfl, hk⟩ := r
    rename_i c a
    obtain ⟨F, hF, q⟩ := ob_ex q
    obtain ⟨f, k, m1, m2, m3, sF, hkn⟩ := (hT _ (lookup_mem hF)).ex
    obtain ⟨d, od, mm, hc, e, hd, I, hns, hl', hr⟩ := S₁.w.instAt hk
    obtain ⟨cd, c1, c2, c3, c4, c5⟩ := X.cls c hc
    refine wpAny_bind (wpAny_holding (method_fn S₁.w.kin I c3 (X.clsG c hc) m1 m2 (by unfold shadowIn; simp only [hl', hr.2 name hf]; rfl) ?_))
    show wpAny _ _ (methodCallPos _ o env apos pos >>= _) _ _ _
    rw [hpos]
    refine wpAny_bind (wpAny_pure ?_)
    refine callWith_of (P := fun h => X.K.In h) (any_false hn) (fun h hh => let ⟨k, hk, L⟩ := looks_keep m3 hh; ⟨k, hk.imp id .inl, L⟩) ?_
    exact args_plain h hn eo rm S₁ q fun κ₂ σ₂ s₂ vs us g₂ S₂ rs q => ⟨S₂.w.kin, S₂.call sF (rm.mono hkn) (vs := .ref (.inst c) a :: vs) ⟨⟨rfl, g₂.k _ _ hk⟩, rs⟩ q.2 fun κ₃ σ₃ s₃ v u g₃ S₃ r q => ⟨κ₃, σ₃, v, (g₁.trans g₂).trans g₃, S₃, r, q⟩⟩
  · exact q.elim
end
end
section
open PyProof.V PySem.Spec
section
variable {X : GC} {κ : Km} {P : Addr → Obj → Prop} {env : Env} {names : List Str} {ls : Ls} {σ : H} {s s' : Shared} {n : Nat} {sc : Scope} {A : Around} {pos apos : Pos}
theorem trees1 {e : Expr} (h : notStar e = true) : backTo pos (starEach [e] env) = [(false, eval e env)] := by rw [starEach_cons h]; rfl
theorem trees2 {e e' : Expr} (h : notStar e = true) (h' : notStar e' = true) : backTo pos (starEach [e, e'] env) = [(false, eval e env), (false, eval e' env)] := by rw [starEach_cons h, starEach_cons h']; rfl
theorem few1 {e : Expr} (h : notStar e = true) : ((backTo pos (starEach [e] env)).all (fun x => !x.1) && (backToKw pos (keywordEach [] env)).all (fun x => x.1.isSome)
      && decide (([e] : List Expr).length + ([] : List Keyword).length + (if ([] : List Keyword).isEmpty then 0 else 1) < 30)) = true := by rw [trees1 h]; rfl
theorem few2 {e e' : Expr} (h : notStar e = true) (h' : notStar e' = true) : ((backTo pos (starEach [e, e'] env)).all (fun x => !x.1) && (backToKw pos (keywordEach [] env)).all (fun x => x.1.isSome)
      && decide (([e, e'] : List Expr).length + ([] : List Keyword).length + (if ([] : List Keyword).isEmpty then 0 else 1) < 30)) = true := by rw [trees2 h h']; rfl
theorem listUpd {h : Heap} {l : Addr} {items : Array Value} {m : Nat} (f : Array Value → Array Value) (ho : h.get? l = some { cls := .type "list", data := .seq items m }) : ∃ m', (h.update l (Obj.mapSeq f)).get? l = some { cls := .type "list", data := .seq (f items) m' } :=
  ⟨_, Heap.get?_update_self _ ho rfl⟩
def pAppend (o e : E1) (ls : Ls) (σ : H) (Q : V → H → Prop) : Prop := o ls σ fun v σ => match v with
  | .ref (.lst k) a => e ls σ fun x σ => (σ.lst k a).length ≤ 1000 ∧ Q .none (σ.setL k a (σ.lst k a ++ [x]))
  | _ => False
theorem s_append {o e : Expr} {to t : E1} (ho : SoundE X n sc names o to) (h : SoundE X n sc names e t) (hn : notStar e = true) (hb : ∀ env, attributeBase o "append" env (eval o env) = eval o env) (hl : (apos.endLine == pos.line) = true) :
    SoundE X n sc names (.Call (.Attribute o "append" apos) [e] [] pos) (pAppend to t) := fun env A κ P ls σ s Q eo rm S q => by
  refine wpAny_Call_method (T := "list") (hb env) (few1 hn) hl PySem.F.plainAttrs_list PySem.F.slot_list_append PySem.F.type_list_append (ho.run eo rm S q fun κ₁ σ₁ s₁ v u g₁ S₁ r q => ?_)
  split at q
  · obtain ⟨rfl, hk⟩ := r
    obtain ⟨vs, m, e1, rs⟩ := S₁.w.cell _ _ hk
    refine ⟨⟨_, e1, rfl⟩, fun a' e' => by cases e'; exact ⟨_, e1, rfl⟩, ?_⟩
    rw [trees1 hn]
    refine PySem.P.append_list (h.run eo rm S₁ q fun κ₂ σ₂ s₂ x u₂ g₂ S₂ r₂ q => ?_)
    obtain ⟨vs, m, e1, rs⟩ := S₂.w.cell _ _ (g₂.k _ _ hk)
    have hl := rs.length
    obtain ⟨m', e2⟩ := listUpd (·.push u₂) e1
    refine ⟨vs, m, len_line (Nat.le_trans (Nat.le_of_eq hl.symm) q.1), e1, ?_⟩
    obtain ⟨kt, S₃⟩ := S₂.setL (s' := { s₂ with heap := s₂.heap.update _ (Obj.mapSeq (·.push u₂)) }) (g₂.k _ _ hk) (l := _ ++ [x]) (vs := vs.push u₂) (by rw [Array.toList_push]; exact rs.append ⟨r₂, trivial⟩) (Heap.SameBut.update ..) e2 rfl rfl
    exact ⟨κ₂, _, .none, ((g₁.trans g₂).kt kt), S₃, rfl, q.2⟩
  · exact q.elim
def pRev (o : E1) (ls : Ls) (σ : H) (Q : V → H → Prop) : Prop := o ls σ fun v σ => match v with
  | .ref (.lst k) a => (σ.lst k a).length ≤ 1000 ∧ Q .none (σ.setL k a (σ.lst k a).reverse)
  | _ => False
theorem s_rev {o : Expr} {to : E1} (ho : SoundE X n sc names o to) (hb : ∀ env, attributeBase o "reverse" env (eval o env) = eval o env) (hl : (apos.endLine == pos.line) = true) :
    SoundE X n sc names (.Call (.Attribute o "reverse" apos) [] [] pos) (pRev to) := fun env A κ P ls σ s Q eo rm S q => by
  refine wpAny_Call_method (T := "list") (hb env) rfl hl PySem.F.plainAttrs_list PySem.F.slot_list_reverse PySem.F.type_list_reverse (ho.run eo rm S q fun κ₁ σ₁ s₁ v u g₁ S₁ r q => ?_)
  split at q
  · obtain ⟨rfl, hk⟩ := r
    obtain ⟨vs, m, e1, rs⟩ := S₁.w.cell _ _ hk
    have hl := rs.length
    refine ⟨⟨_, e1, rfl⟩, fun a' e' => by cases e'; exact ⟨_, e1, rfl⟩, ?_⟩
    obtain ⟨m', e2⟩ := listUpd (·.reverse) e1
    obtain ⟨kt, S₃⟩ := S₁.setL (s' := { s₁ with heap := s₁.heap.update _ (Obj.mapSeq (·.reverse)) }) hk (l := (σ₁.lst _ _).reverse) (vs := vs.reverse) (by rw [Array.toList_reverse]; exact rs.reverse) (Heap.SameBut.update ..) e2 rfl rfl
    exact PySem.P.reverse_list e1 ⟨κ₁, _, .none, (g₁.kt kt), S₃, rfl, q.2⟩ (len_line (Nat.le_trans (Nat.le_of_eq hl.symm) q.1))
  · exact q.elim
def pPop (o : E1) (ls : Ls) (σ : H) (Q : V → H → Prop) : Prop := o ls σ fun v σ => match v with
  | .ref (.lst k) a => (σ.lst k a).length ≤ 1000 ∧ ∃ w, (σ.lst k a).getLast? = some w ∧ Q w (σ.setL k a (σ.lst k a).dropLast)
  | _ => False
theorem eraseLast (vs : Array Value) : (vs.eraseIdxIfInBounds (vs.size - 1)).toList = vs.toList.dropLast := by
  obtain ⟨l⟩ := vs
  simp only [List.eraseIdxIfInBounds_toArray, List.size_toArray, List.eraseIdx_length_sub_one]
theorem VRels.dropLast {h : Heap} {l : List V} {us : List Value} (r : VRels κ h l us) : VRels κ h l.dropLast us.dropLast := by
  rw [List.dropLast_eq_take, List.dropLast_eq_take, r.length]; exact r.take _
theorem s_pop {o : Expr} {to : E1} (ho : SoundE X n sc names o to) (hb : ∀ env, attributeBase o "pop" env (eval o env) = eval o env) (hl : (apos.endLine == pos.line) = true) :
    SoundE X n sc names (.Call (.Attribute o "pop" apos) [] [] pos) (pPop to) := fun env A κ P ls σ s Q eo rm S q => by
  refine wpAny_Call_method (T := "list") (hb env) rfl hl PySem.F.plainAttrs_list PySem.F.slot_list_pop PySem.F.type_list_pop (ho.run eo rm S q fun κ₁ σ₁ s₁ v u g₁ S₁ r q => ?_)
  split at q
  · rename_i k a
    obtain ⟨rfl, hk⟩ := r
    obtain ⟨hlen, w, hw, q⟩ := q
    obtain ⟨vs, m, e1, rs⟩ := S₁.w.cell _ _ hk
    have hl : (σ₁.lst k a).length = vs.size := rs.length
    refine ⟨⟨_, e1, rfl⟩, fun a' e' => by cases e'; exact ⟨_, e1, rfl⟩, ?_⟩
    rw [List.getLast?_eq_getElem?, hl] at hw
    obtain ⟨y, hy, ry⟩ := rs.get hw
    rw [Array.getElem?_toList] at hy
    obtain ⟨m', e2⟩ := listUpd (·.eraseIdxIfInBounds (vs.size - 1)) e1
    obtain ⟨kt, S₃⟩ := S₁.setL (s' := { s₁ with heap := s₁.heap.update _ (Obj.mapSeq (·.eraseIdxIfInBounds (vs.size - 1))) }) hk (l := (σ₁.lst k a).dropLast) (vs := vs.eraseIdxIfInBounds (vs.size - 1)) (by rw [eraseLast]; exact rs.dropLast) (Heap.SameBut.update ..) e2 rfl rfl
    exact PySem.P.pop_list e1 hy ⟨κ₁, _, w, (g₁.kt kt), S₃, ry.mono (fun _ _ z => z) kt, q⟩ (len_line (Nat.le_trans (Nat.le_of_eq hl.symm) hlen))
  · exact q.elim
def pPop0 (o e : E1) (ls : Ls) (σ : H) (Q : V → H → Prop) : Prop := o ls σ fun v σ => match v with
  | .ref (.lst k) a => e ls σ fun i σ => i = .int 0 ∧ (σ.lst k a).length ≤ 1000 ∧ ∃ w r, σ.lst k a = w :: r ∧ Q w (σ.setL k a r)
  | _ => False
theorem s_pop0 {o e : Expr} {to t : E1} (ho : SoundE X n sc names o to) (h : SoundE X n sc names e t) (hn : notStar e = true) (hb : ∀ env, attributeBase o "pop" env (eval o env) = eval o env) (hl : (apos.endLine == pos.line) = true) :
    SoundE X n sc names (.Call (.Attribute o "pop" apos) [e] [] pos) (pPop0 to t) := fun env A κ P ls σ s Q eo rm S q => by
  refine wpAny_Call_method (T := "list") (hb env) (few1 hn) hl PySem.F.plainAttrs_list PySem.F.slot_list_pop PySem.F.type_list_pop (ho.run eo rm S q fun κ₁ σ₁ s₁ v u g₁ S₁ r q => ?_)
  split at q
  · rename_i k a
    obtain ⟨rfl, hk⟩ := r
    obtain ⟨vs, m, e1, rs⟩ := S₁.w.cell _ _ hk
    refine ⟨⟨_, e1, rfl⟩, fun a' e' => by cases e'; exact ⟨_, e1, rfl⟩, ?_⟩
    rw [trees1 hn]
    refine PySem.P.pop_at_list (h.run eo rm S₁ q fun κ₂ σ₂ s₂ x u₂ g₂ S₂ r₂ q => ?_)
    obtain ⟨rfl, hlen, w, r, hw, q⟩ := q
    obtain ⟨t, rfl⟩ := r₂
    obtain ⟨vs, m, e1, rs⟩ := S₂.w.cell _ _ (g₂.k _ _ hk)
    have hl : (σ₂.lst k a).length = vs.size := rs.length
    obtain ⟨l⟩ := vs
    have rs' : VRels κ₂ s₂.heap (σ₂.lst k a) l := rs
    rw [hw] at rs'
    match l, rs' with
    | y :: l, ⟨ry, rr⟩ =>
      obtain ⟨m', e2⟩ := listUpd (·.eraseIdxIfInBounds 0) e1
      refine ⟨_, m, 0, t, 0, y, len_line (Nat.le_trans (Nat.le_of_eq hl.symm) hlen), rfl, e1, by decide, by simp [seqIndex?], by simp, ?_⟩
      obtain ⟨kt, S₃⟩ := S₂.setL (s' := { s₂ with heap := s₂.heap.update _ (Obj.mapSeq (·.eraseIdxIfInBounds 0)) }) (g₂.k _ _ hk) (l := r) (vs := (y :: l).toArray.eraseIdxIfInBounds 0) (by simpa using rr) (Heap.SameBut.update ..) e2 rfl rfl
      exact ⟨κ₂, _, w, ((g₁.trans g₂).kt kt), S₃, ry.mono (fun _ _ z => z) kt, q⟩
  · exact q.elim
end
end
section
open PyProof.V PySem.Spec
section
variable {X : GC} {κ : Km} {P : Addr → Obj → Prop} {env : Env} {names : List Str} {ls : Ls} {σ : H} {s s' : Shared} {n : Nat} {sc : Scope} {A : Around} {pos apos : Pos}
def pGet (o e : E1) (ls : Ls) (σ : H) (Q : V → H → Prop) : Prop := o ls σ fun v σ => match v with
  | .ref (.dS k) a => e ls σ fun y σ => match y with | .str y => Q ((dget (σ.dS k a).1 y).getD .none) σ | _ => False
  | _ => False
theorem s_get {o e : Expr} {to t : E1} (ho : SoundE X n sc names o to) (h : SoundE X n sc names e t) (hn : notStar e = true) (hb : ∀ env, attributeBase o "get" env (eval o env) = eval o env) (hl : (apos.endLine == pos.line) = true) :
    SoundE X n sc names (.Call (.Attribute o "get" apos) [e] [] pos) (pGet to t) := fun env A κ P ls σ s Q eo rm S q => by
  refine wpAny_Call_method (T := "dict") (hb env) (few1 hn) hl PySem.F.plainAttrs_dict PySem.F.slot_dict_get PySem.F.type_dict_get (ho.run eo rm S q fun κ₁ σ₁ s₁ v u g₁ S₁ r q => ?_)
  split at q
  · rename_i k a
    obtain ⟨rfl, hk⟩ := r
    obtain ⟨kvs, D, rs⟩ := S₁.w.cell _ _ hk
    have D := D.dictOf
    refine ⟨D.typeIs, D.mapOf.noDict, ?_⟩
    rw [trees1 hn]
    refine wpAny_dict_get1 (knd := strKind X.prog X.w) (S₁.w.nsys hk) (h.run eo rm S₁ q fun κ₂ σ₂ s₂ x u₂ g₂ S₂ r₂ q => ?_)
    split at q
    · rename_i y
      obtain ⟨t, rfl⟩ := r₂
      obtain ⟨kvs, D, rs⟩ := S₂.w.cell _ _ (g₂.k _ _ hk)
      have D := D.dictOf
      have g := rs.dget (k := y)
      refine ⟨y, _, strKind_is X.prog X.w y t, D.mapOf, ?_⟩
      revert q; revert g
      cases dget (σ₂.dS k a).1 y with
      | none => intro g q; rw [g]; exact ⟨κ₂, σ₂, .none, ⟨(g₁.trans g₂).k, (g₁.trans g₂).t⟩, S₂.toks _, rfl, q⟩
      | some w => rintro ⟨x, g, rx⟩ q; rw [g]; exact ⟨κ₂, σ₂, w, ⟨(g₁.trans g₂).k, (g₁.trans g₂).t⟩, S₂.toks _, rx, q⟩
    · exact q.elim
  · exact q.elim
noncomputable def ddel {K α : Type} [DecidableEq K] (l : List (K × α)) (k : K) : List (K × α) := l.filter fun x => decide (x.1 ≠ k)
theorem PRels.ddel {h : Heap} {k : Str} : ∀ {l : List (Str × V)} {u : List (Str × Value)}, PRels κ h l u → PRels κ h (ddel l k) (without u k)
  | [], [], _ => trivial
  | a :: l, b :: u, ⟨e, r, t⟩ => by
    unfold NT.ddel without
    rw [List.filter_cons, List.filter_cons, e]
    by_cases z : b.1 = k
    · simp only [z, ne_eq, not_true_eq_false, decide_false, Bool.false_eq_true, if_false]; exact PRels.ddel t
    · simp only [z, ne_eq, not_false_eq_true, decide_true, if_true]; exact ⟨e, r, PRels.ddel t⟩
  | [], _ :: _, e => e.elim
  | _ :: _, [], e => e.elim
def pPopD (o e d : E1) (ls : Ls) (σ : H) (Q : V → H → Prop) : Prop := o ls σ fun v σ => match v with
  | .ref (.dS k) a => e ls σ fun y σ => match y with
    | .str y => d ls σ fun z σ => (σ.dS k a).1.length ≤ 1000 ∧ ∀ e, Q ((dget (σ.dS k a).1 y).getD z) (σ.setS k a (ddel (σ.dS k a).1 y) e)
    | _ => False
  | _ => False
theorem ddel_none {K α : Type} [DecidableEq K] {l : List (K × α)} {k : K} (h : dget l k = none) : ddel l k = l := by
  unfold ddel
  rw [List.filter_eq_self]
  intro a ha
  unfold dget at h
  have := Option.map_eq_none_iff.mp h
  have := List.find?_eq_none.mp this a ha
  simpa using this
theorem setS_self {k : Nat} {a : Addr} : σ.setS k a (σ.dS k a).1 (σ.dS k a).2 = σ := by
  unfold H.setS
  have : (fun k' a' => if k' = k ∧ a' = a then ((σ.dS k a).1, (σ.dS k a).2) else σ.dS k' a') = σ.dS := by
    funext k' a'
    split
    · rename_i h; rw [h.1, h.2]
    · rfl
  rw [this]
theorem s_popD {o e d : Expr} {to t td : E1} (ho : SoundE X n sc names o to) (h : SoundE X n sc names e t) (h' : SoundE X n sc names d td) (hn : notStar e = true) (hn' : notStar d = true) (hb : ∀ env, attributeBase o "pop" env (eval o env) = eval o env) (hl : (apos.endLine == pos.line) = true) :
    SoundE X n sc names (.Call (.Attribute o "pop" apos) [e, d] [] pos) (pPopD to t td) := fun env A κ P ls σ s Q eo rm S q => by
  refine wpAny_Call_method (T := "dict") (hb env) (few2 hn hn') hl PySem.F.plainAttrs_dict PySem.F.slot_dict_pop PySem.F.type_dict_pop (ho.run eo rm S q fun κ₁ σ₁ s₁ v u g₁ S₁ r q => ?_)
  split at q
  · rename_i k a
    obtain ⟨rfl, hk⟩ := r
    obtain ⟨kvs, D, rs⟩ := S₁.w.cell _ _ hk
    have D := D.dictOf
    refine ⟨D.typeIs, D.mapOf.noDict, ?_⟩
    rw [trees2 hn hn']
    refine method2_meetsIn PySem.F.slot_dict_pop PySem.F.entry_dict_pop (h.run eo rm S₁ q fun κ₂ σ₂ s₂ x u₂ g₂ S₂ r₂ q => ?_)
    split at q
    · rename_i y
      refine h'.run eo rm S₂ q fun κ₃ σ₃ s₃ z u₃ g₃ S₃ r₃ q => ?_
      obtain ⟨hz, q⟩ := q
      obtain ⟨t, rfl⟩ := r₂
      have hk₃ := g₃.k _ _ (g₂.k _ _ hk)
      obtain ⟨kvs, D, rs⟩ := S₃.w.cell _ _ hk₃
      have D := D.dictOf
      have hlen := rs.length
      have g := rs.dget (k := y)
      have hkey := strKind_is X.prog X.w y t
      have G := (g₁.trans g₂).trans g₃
      refine ⟨D.typeIs, PySem.F.args_dict_pop_3 _ _ _, ?_⟩
      revert q; revert g
      cases hd : dget (σ₃.dS k a).1 y with
      | none =>
        intro g q
        have q := q (σ₃.dS k a).2
        rw [ddel_none hd, setS_self] at q
        exact ⟨_, meets_dict_pop_default (strKind X.prog X.w) a hkey (S₃.w.nsys hk₃) rfl u₃, kvs, D, g, κ₃, σ₃, z, ⟨G.k, G.t⟩, S₃.toks _, r₃, q⟩
      | some w =>
        rintro ⟨x, g, rx⟩ q
        refine ⟨_, meets_dict_pop_there (strKind X.prog X.w) a hkey [u₃] (.inr ⟨_, rfl⟩) rfl, kvs, x, D, by rw [sizeLine_eq]; omega, g, fun h' D' hs => ?_⟩
        obtain ⟨e, kt, S₄⟩ := S₃.setS (s' := { s₃ with heap := h', toks := s₃.toks + 1 }) hk₃ D' rs.ddel hs rfl rfl
        exact ⟨κ₃, _, w, (G.kt kt), S₄, rx.mono (fun _ _ z => z) kt, q e⟩
    · exact q.elim
  · exact q.elim
def BiOk (X : GC) (fv : Value) (f : V → H → (V → H → Prop) → Prop) : Prop :=
  ∀ env names A κ P ls σ s Q n a u, Rm n A → St X κ P env names ls σ s → VRel κ s.heap a u → f a σ Q → wpAny X.M A (call fv [u]) (PostE X P env names ls κ s Q) no s
def pBi (f : V → H → (V → H → Prop) → Prop) (t : E1) (ls : Ls) (σ : H) (Q : V → H → Prop) : Prop := t ls σ fun a σ => f a σ Q
theorem s_bi {f : V → H → (V → H → Prop) → Prop} {id : Str} {fp : Pos} {fv : Value} {e : Expr} {t : E1} (hf : BiOk X fv f) (h : SoundE X n sc names e t) (hn : notStar e = true) (hx : sc.names.lookup id = some .globalImplicit) (e1 : nsIn X.K mainGlobals id = some none) (e2 : bootBuiltins id = some fv)
    (hne : id ≠ ("__name__" : Str)) (hd : (id == ("__debug__" : Str)) = false) (hm : keeperOf fv = pure .machine) : SoundE X n sc names (.Call (.Name id fp) [e] [] pos) (pBi f t) := fun env A κ P ls σ s Q eo rm S q => by
  have hk' : env.scope.kind = .function := by rw [eo.scope]; exact eo.kind
  have hx' : env.kindOf id = some .globalImplicit := by unfold Env.kindOf; rw [eo.scope]; exact hx
  refine wpAny_Call_NameR (Name_function_global hk' hx' (loadGlobal_builtin (env := env) (mg := X.mg) (mb := X.mb) (eo.g ▸ X.ng.keeps S.w.base) (mg_none_of X.KX X.ng e1) (eo.b ▸ X.nb.keeps S.w.base) ((X.mbI id hne).trans e2) ?_) hd)
  rw [trees1 hn]
  refine callWith_of (P := fun _ => True) rfl (fun h _ => ⟨.machine, .inr (.inl rfl), Looks.of_pure hm⟩) (Calls.evalArgs_plain (Calls.spliced_cons (h.run eo rm S q fun κ₁ σ₁ s₁ v u g₁ S₁ r q => Calls.spliced_nil ⟨trivial, ?_⟩)))
  exact wpAny_mono (hf env names A κ₁ P ls σ₁ s₁ Q n v u rm S₁ r q) (fun _ _ z => z.from g₁) fun _ _ e => e
def fLen (a : V) (σ : H) (Q : V → H → Prop) : Prop := match a with | .ref (.lst k) a => (σ.lst k a).length ≤ 1000 ∧ Q (.int (σ.lst k a).length) σ | _ => False
def fRepr (a : V) (σ : H) (Q : V → H → Prop) : Prop := match a with | .bool b => Q (.str (if b = true then Str.ofString "True" else Str.ofString "False")) σ | _ => False
def fStr (a : V) (σ : H) (Q : V → H → Prop) : Prop := match a with | .int i => (0 ≤ i ∧ i < 1000) ∧ Q (.str (Str.ofString (toString i))) σ | _ => False
def fInt (a : V) (σ : H) (Q : V → H → Prop) : Prop := match a with | .int i => Q (.int i) σ | _ => False
theorem b_len : BiOk X (.builtin "len") fLen := fun env names A κ P ls σ s Q n a u rm S r q => by
  unfold fLen at q; split at q
  · rename_i k a
    obtain ⟨rfl, hk⟩ := r
    obtain ⟨vs, m, e1, rs⟩ := S.w.cell _ _ hk
    have hl : (σ.lst k a).length = vs.size := rs.length
    have := q.1
    refine len_list ⟨_, e1, rfl, m, rfl⟩ (by omega) (by rw [← hl]; exact S.here (v := .int _) (.refl _) (S.toks _) ⟨_, rfl⟩ q.2)
  · exact q.elim
theorem b_repr : BiOk X (.builtin "repr") fRepr := fun env names A κ P ls σ s Q n a u rm S r q => by
  unfold fRepr at q; split at q
  · obtain rfl : u = .bool _ := r
    exact PySem.P.repr_of_bool (S.here (v := .str _) (.refl _) (S.toks _) ⟨_, rfl⟩ q)
  · exact q.elim
theorem b_str : BiOk X (.type "str") fStr := fun env names A κ P ls σ s Q n a u rm S r q => by
  unfold fStr at q; split at q
  · obtain ⟨t, rfl⟩ := r
    obtain ⟨⟨h0, h1⟩, q⟩ := q
    refine PySem.P.str_of_int ?_ (S.here (v := .str _) (.refl _) (S.toks _) ⟨_, rfl⟩ q)
    rename_i i
    by_cases z : i.natAbs = 0
    · rw [z]; decide
    · exact Nat.lt_of_lt_of_le ((Nat.log2_lt z).mpr (show i.natAbs < 2 ^ 10 by omega)) (by omega)
  · exact q.elim
theorem b_int : BiOk X (.type "int") fInt := fun env names A κ P ls σ s Q n a u rm S r q => by
  unfold fInt at q; split at q
  · obtain ⟨t, rfl⟩ := r
    exact PySem.call_int_int (S.here (v := .int _) (.refl _) S ⟨_, rfl⟩ q)
  · exact q.elim
end
end
section
open PyProof.V PySem.Spec
theorem keys_not_list : typeLookup (.type "list") "keys" = pure none := am_miss_of_fast (by kernel_rfl)
section
variable {prog : Program} {w : World} {A : Around} {E : Value → Shared → Prop} {s : Shared}
theorem keys_miss {a : Addr} {xs : Array Value} {k : Nat} {Q : Option Value → Shared → Prop} (hx : s.heap.get? a = some { cls := .type "list", data := .seq xs k }) (hA : A.handled = none)
    (h : ∀ h' tk, (∀ b o, s.heap.get? b = some o → h'.get? b = some o) → Q none { s with heap := h', toks := tk }) : wpAny (model prog w) A (getAttr? (.ref a) "keys") Q E s := by
  obtain ⟨hp, g, d, tk, os⟩ := s
  have hT : ∀ tk', (⟨hp, g, d, tk', os⟩ : Shared).TypeIs (.ref a) "list" := fun _ => ⟨_, hx, rfl⟩
  have f1 := sub_AttributeError
  have f3 := F.slot_list_getattribute.lookup
  have f4 := F.slot_list_getattribute.bind (.ref a)
  have f5 := am_list_getattr_none
  have hsz : (Str.ofString "keys").length + 100 ≤ sizeLine := by rw [sizeLine_eq]; decide
  unfold getAttr? getAttrBy? getAttrBy
  repeat (any_goals (first | assumption | exact hT _ | ((with_reducible show wpAny _ _ (call (Value.builtin "list.__getattribute__") _ _) _ _ _); refine call_meets F.slot_list_getattribute (hT _) am_entry_list_getattribute (F.args_list_getattribute_2 _ _) (meets_getattribute_miss_list a xs k _ "keys" _ keys_not_list (by decide) hsz) ⟨hx, hA, fun h' tk' e hx' => ?_⟩) | wp_step))
  obtain ⟨t', u', he⟩ := hx'.there
  show wpAny _ _ (getattributeRaised _ _ _ _ _ _ _) _ _ _
  unfold getattributeRaised
  repeat (any_goals (first | assumption | wp_step))
  exact h _ _ hx'.keeps
theorem entry_updLoop : entryFor table "dict.update.loop" = some Builtin.«dict.update.loop» := entryFor_of_tree (by kernel_rfl)
theorem plain_updLoop : plainId "dict.update.loop" = true := by decide +kernel
def PairsAt (h : Heap) : List Value → List (Str × Value) → Prop
  | [], [] => True
  | u :: us, p :: ps => (∃ x t, u = .ref x ∧ IsTup h x #[.str p.1 t, p.2]) ∧ PairsAt h us ps
  | _, _ => False
theorem PairsAt.keep {h h' : Heap} (k : KeepA h h') : ∀ {us : List Value} {ps : List (Str × Value)}, PairsAt h us ps → PairsAt h' us ps
  | [], [], _ => trivial
  | _ :: _, _ :: _, ⟨⟨x, t, e, T⟩, r⟩ => ⟨⟨x, t, e, k _ _ T⟩, PairsAt.keep k r⟩
  | [], _ :: _, e => e.elim
  | _ :: _, [], e => e.elim
theorem stored_len {K : Type} [DecidableEq K] (kvs : List (K × Value)) (k : K) (v : Value) : (stored kvs k v).length ≤ kvs.length + 1 := by
  unfold stored
  split
  · rw [List.length_map]; exact pa7
  · rw [List.length_append]; exact Nat.le_refl _
theorem iter_notTup {h : Heap} {it l : Addr} {i : Nat} (x : h.IsListIter it l i) : ∀ its, ¬ IsTup h it its := fun its ⟨o, ho, hc, _⟩ => by
  obtain ⟨o', ho', hc', _⟩ := x
  rw [ho] at ho'; cases ho'; rw [hc] at hc'; exact absurd hc' (by simp)
theorem updLoop {l it d : Addr} {vs : Array Value} (hh : A.handled = none) (hdi : d ≠ it) (hli : l ≠ it) (hdl : l ≠ d) : ∀ (rest : List (Str × Value)) (i : Nat) (kvs : List (Str × Value)) (s : Shared) (R : Result → Shared → Prop),
    s.heap.IsListIter it l i → s.heap.IsList l vs → s.heap.DictOf (strKind prog w) d kvs → PairsAt s.heap (vs.toList.drop i) rest → kvs.length + rest.length ≤ sizeLine →
    (∀ h' tk, h'.DictOf (strKind prog w) d (rest.foldl (fun acc p => stored acc p.1 p.2) kvs) → (∀ b o, b ≠ d → b ≠ it → s.heap.get? b = some o → h'.get? b = some o) → R (.ok (.ret .none)) { s with heap := h', toks := tk }) →
    codeAny (model prog w) A (.builtin "dict.update.loop" ⟨[.ref d, .ref it, rawInt i, .none], []⟩) R s := by
  intro rest
  induction rest with
  | nil =>
    intro i kvs s R hit hl hd hp hz h
    refine codeAny_builtin entry_updLoop ?_
    rw [Around.under_plainId plain_updLoop]
    unfold Builtin.«dict.update.loop»
    have hx : vs[i]? = none := by
      rw [← Array.getElem?_toList]
      cases e : vs.toList.drop i with
      | nil => rw [List.drop_eq_nil_iff] at e; exact List.getElem?_eq_none e
      | cons a r => rw [e] at hp; exact hp.elim
    refine wpAny_bind (wpAny_pyNext_list_end hh hit hl hx fun h' he => ?_)
    show wpAny _ _ (Builtin.Dict.addKeywords d [] >>= _) _ _ _
    refine wpAny_bind (wpAny_pure (wpAny_pure ?_))
    exact h h' s.toks (hd.extBut he hdi) fun b o _ hb e => he b o hb e
  | cons p rest ih =>
    intro i kvs s R hit hl hd hp hz h
    refine codeAny_builtin entry_updLoop ?_
    rw [Around.under_plainId plain_updLoop]
    unfold Builtin.«dict.update.loop»
    cases e : vs.toList.drop i with
    | nil => rw [e] at hp; exact hp.elim
    | cons u us =>
      rw [e] at hp
      obtain ⟨⟨x, t, rfl, T⟩, hp⟩ := hp
      have hx : vs[i]? = some (.ref x) := by
        rw [← Array.getElem?_toList]
        have := congrArg (·[0]?) e
        simpa [List.getElem?_drop] using this
      have hdr : vs.toList.drop (i + 1) = us := by
        have := congrArg List.tail e
        simpa [List.tail_drop] using this
      refine wpAny_bind (wpAny_pyNext_list_item hit hl hx fun h₁ hit₁ hs₁ => ?_)
      have k1 : KeepA s.heap h₁ := KeepA.but hs₁.extBut (iter_notTup hit)
      obtain ⟨o, ho, hc, n, hd'⟩ := k1 _ _ T
      have d1 := hd.extBut hs₁.extBut hdi
      have pi : ∀ {Q : List Value → Shared → Prop} {E' : Value → Shared → Prop}, Q [.str p.1 t, p.2] { s with heap := h₁ } → wpAny (model prog w) A.in1 (Builtin.Dict.pairItems (.ref x)) Q E' { s with heap := h₁ } := fun q => by
        unfold Builtin.Dict.pairItems
        refine wpAny_bind (wpAny_typeOf (T := "tuple") ⟨o, ho, hc⟩ ?_)
        show wpAny _ _ (if (Value.type "tuple" == Value.type "list" || Value.type "tuple" == Value.type "tuple") = true then _ else _) _ _ _
        rw [if_pos (by decide)]
        exact wpAny_bind (wpAny_seqItems ho hd' (wpAny_pure q))
      refine wpAny_bind (wpAny_holding (wpAny_bind (wpAny_tryCatch (pi ?_))))
      show wpAny _ _ (holding [Value.str p.1 t, p.2] (dictSet d (Value.str p.1 t) p.2)) _ _ _
      refine (wpAny_holding (wpAny_dictSet_pairs (s := { s with heap := h₁ }) (strKind_is prog w p.1 t) d1 (fun h₂ d2 hs₂ => ?_) (by simp only [List.length_cons] at hz; exact pc9)))
      have k2 : KeepA h₁ h₂ := KeepA.but hs₂.extBut (dictOf_cls d1)
      refine wpAny_pure ?_
      refine ⟨plainId_quiet plain_updLoop _, ?_⟩
      have c : (i : Int) + 1 = ((i + 1 : Nat) : Int) := by push_cast; rfl
      show codeAny _ _ (.builtin "dict.update.loop" ⟨[.ref d, .ref it, rawInt ((i : Int) + 1), .none], []⟩) R _
      rw [c]
      refine ih (i + 1) (stored kvs p.1 p.2) { s with heap := h₂, toks := s.toks + 1 } R ((hit₁.extBut hs₂.extBut (Ne.symm hdi))) ((hl.extBut hs₁.extBut hli).extBut hs₂.extBut hdl) d2 (by rw [hdr]; exact (hp.keep k1).keep k2) ?_ fun h' tk d3 kp => ?_
      · have := stored_len kvs p.1 p.2; simp only [List.length_cons] at hz; omega
      · exact h h' tk d3 fun b o hb hb' e => kp b o hb hb' (hs₂.extBut b o hb (hs₁.extBut b o hb' e))
theorem dict_of_list {l : Addr} {vs : Array Value} {m : Nat} {ps : List (Str × Value)} {Q : Value → Shared → Prop} (hh : A.handled = none) (ho : s.heap.get? l = some { cls := .type "list", data := .seq vs m }) (hp : PairsAt s.heap vs.toList ps) (hz : ps.length ≤ sizeLine)
    (h : ∀ h' tk, h'.DictOf (strKind prog w) s.heap.objs.size (ps.foldl (fun acc p => stored acc p.1 p.2) []) → (∀ b o, s.heap.get? b = some o → h'.get? b = some o) → Q (.ref s.heap.objs.size) { s with heap := h', toks := tk }) :
    wpAny (model prog w) A (call (.type "dict") [.ref l]) Q E s := by
  refine callType_codes (Q₁ := fun obj s₁ => obj = .ref s.heap.objs.size ∧ s₁ = { s with heap := s.heap.push { cls := .type "dict", data := .dict #[] } }) F.kt_called_dict (F.kt_typeCall_dict_1 _) F.entry_dict_init (kt_code_dict_new _ ⟨rfl, rfl⟩) ?_
  rintro obj s₁ ⟨rfl, rfl⟩
  have hnew : (s.heap.push { cls := .type "dict", data := .dict #[] }).DictOf (strKind prog w) s.heap.objs.size [] := Heap.DictOf.new s.heap
  have ho' := Heap.get?_push_of_some { cls := .type "dict", data := .dict #[] } ho
  have hlt := Heap.lt_size ho
  refine ⟨hnew.typeIs, F.args_dict_init_2 _ _, ?_⟩
  unfold Builtin.«dict.__init__»
  refine wpAny_bind ?_
  unfold Builtin.Dict.selfAndRest
  refine wpAny_bind (wpAny_notOrdered_dict hnew.typeIs ?_)
  show wpAny _ _ (pure (s.heap.objs.size, [Value.ref l])) _ _ _
  refine wpAny_pure ?_
  show wpAny _ _ (Builtin.Dict.updateFrom "dict.__init__" s.heap.objs.size (.ref l) [] .none) _ _ _
  unfold Builtin.Dict.updateFrom
  refine wpAny_bind (wpAny_typeOf (T := "list") ⟨_, ho', rfl⟩ ?_)
  rw [if_pos (by decide)]
  refine wpAny_bind (keys_miss ho' hh fun h₁ tk k1 => ?_)
  show wpAny _ _ (if (none : Option Value).isNone = true then _ else _) _ _ _
  rw [if_pos (show (none : Option Value).isNone = true from rfl)]
  refine wpAny_bind (wpAny_rule (wpAny_bind (wpAny_pyIter_list (s := { s with heap := h₁, toks := tk }) (l := l) (items := vs) ⟨_, k1 _ _ ho', rfl, m, rfl⟩ ?_)))
  have dsz : s.heap.objs.size < h₁.objs.size := by
    obtain ⟨o, _, _, e, _⟩ := hnew
    exact Heap.lt_size (k1 _ _ e)
  refine wpAny_pure ⟨plainId_quiet plain_updLoop _, ?_⟩
  have k2 : ∀ b o, h₁.get? b = some o → (h₁.push { cls := .type "list_iterator", data := .fields #[.ref l, .int 0 0] }).get? b = some o := fun b o e => Heap.get?_push_of_some _ e
  show codeAny _ _ (.builtin "dict.update.loop" ⟨[.ref s.heap.objs.size, .ref h₁.objs.size, rawInt ((0 : Nat) : Int), .none], []⟩) _ _
  have hitr : (h₁.push { cls := .type "list_iterator", data := .fields #[.ref l, .int 0 0] }).IsListIter h₁.objs.size l 0 := ⟨_, Heap.get?_push_size _ rfl, rfl, rfl⟩
  have hnew' : (h₁.push { cls := .type "list_iterator", data := .fields #[.ref l, .int 0 0] }).DictOf (strKind prog w) s.heap.objs.size [] := let ⟨o, es, ep, e, r⟩ := hnew; ⟨o, es, ep, k2 _ _ (k1 _ _ e), r⟩
  refine updLoop (A := A.in1) (vs := vs) (show A.in1.handled = none from hh) (Nat.ne_of_lt dsz) (Nat.ne_of_lt (Nat.lt_trans hlt dsz)) (Nat.ne_of_lt hlt) ps 0 [] { s with heap := h₁.push { cls := .type "list_iterator", data := .fields #[.ref l, .int 0 0] }, toks := tk } _ hitr ⟨_, k2 _ _ (k1 _ _ ho'), rfl, m, rfl⟩ hnew' (by
    rw [List.drop_zero]
    exact (hp.keep (KeepA.of fun b o e => k2 b o (k1 b o (Heap.get?_push_of_some _ e))))) (by simpa using hz) fun h' tk' d3 kp => ?_
  refine ⟨rfl, h h' tk' d3 fun b o e => ?_⟩
  have hb := Heap.lt_size e
  exact kp b o (Nat.ne_of_lt hb) (Nat.ne_of_lt (Nat.lt_trans hb dsz)) (k2 b o (k1 b o (Heap.get?_push_of_some _ e)))
end
end
section
open PyProof.V PySem.Spec
section
variable {X : GC} {κ : Km} {P : Addr → Obj → Prop} {env : Env} {names : List Str} {ls : Ls} {σ : H} {s s' : Shared} {n : Nat} {sc : Scope} {A : Around} {pos apos : Pos}
theorem St.newS (S : St X κ P env names ls σ s) {k : Nat} {a : Addr} {l : List (Str × V)} {kvs : List (Str × Value)} (ha : s.heap.objs.size ≤ a) (hs : ∀ a o, s.heap.get? a = some o → s'.heap.get? a = some o) (hz : a < s'.heap.objs.size) (hg : s'.gens = s.gens) (hos : s'.os = s.os)
    (hD : s'.heap.DictOf (strKind X.prog X.w) a kvs) (r : PRels κ s.heap l kvs) : ∃ κ' e, Go κ κ' s s' ∧ St X κ' P env names ls (σ.newS k a l e) s' ∧ κ' a = some (.dS k) := by
  obtain ⟨e, hD⟩ := hD.dictAt
  have kt : KeepT κ _ _ := KeepT.of hs
  have F := S.w.fresh ha
  have hm : ∀ b j, κ b = some j → upd κ a (.dS k) b = some j := fun b j e => by
    rw [upd_ne]; exact e
    intro q; rw [q, F.k] at e; cases e
  have e1 : (σ.newS k a l e).dS k a = (l, e) := if_eq2
  obtain ⟨W, hm⟩ := S.w.alloc (s' := s') (k := .dS k) (a := a) (σ' := σ.newS k a l e) ha hs hz hg hos rfl
    ⟨kvs, by rw [e1]; exact ⟨hD, r.mono hm kt⟩⟩ (fun _ _ _ => rfl) (fun _ _ _ => rfl) (fun c b hb => if_ne2 hb) (fun _ _ _ => rfl) (fun _ _ _ => rfl)
  exact ⟨_, e, ⟨hm, kt⟩, ⟨W, S.f.fresh (s' := s') ha hs hm⟩, upd_self _ _ _⟩
theorem St.newI (S : St X κ P env names ls σ s) {k : Nat} {a : Addr} {l : List (Int × V)} {kvs : List (Int × Value)} (ha : s.heap.objs.size ≤ a) (hs : ∀ a o, s.heap.get? a = some o → s'.heap.get? a = some o) (hz : a < s'.heap.objs.size) (hg : s'.gens = s.gens) (hos : s'.os = s.os)
    (hD : s'.heap.DictOf (intKind X.prog X.w) a kvs) (r : PRels κ s.heap l kvs) : ∃ κ', Go κ κ' s s' ∧ St X κ' P env names ls (σ.newI k a l) s' ∧ κ' a = some (.dI k) := by
  have kt : KeepT κ _ _ := KeepT.of hs
  have F := S.w.fresh ha
  have hm : ∀ b j, κ b = some j → upd κ a (.dI k) b = some j := fun b j e => by
    rw [upd_ne]; exact e
    intro q; rw [q, F.k] at e; cases e
  obtain ⟨W, hm⟩ := S.w.alloc (s' := s') (k := .dI k) (a := a) (σ' := σ.newI k a l) ha hs hz hg hos rfl
    ⟨kvs, hD, by
      show PRels _ _ (if k = k ∧ a = a then l else _) _
      rw [if_eq2]; exact r.mono hm kt⟩ (fun _ _ _ => rfl) (fun _ _ _ => rfl) (fun _ _ _ => rfl) (fun c b hb => if_ne2 hb) (fun _ _ _ => rfl)
  exact ⟨_, ⟨hm, kt⟩, ⟨W, S.f.fresh (s' := s') ha hs hm⟩, upd_self _ _ _⟩
theorem St.newT (S : St X κ P env names ls σ s) {k : Nat} {a : Addr} {l : List ((Str × Int) × V)} {xs : List (List MK × Addr × Value)} (ha : s.heap.objs.size ≤ a) (hs : ∀ a o, s.heap.get? a = some o → s'.heap.get? a = some o) (hz : a < s'.heap.objs.size) (hg : s'.gens = s.gens) (hos : s'.os = s.os)
    (hD : s'.heap.DictOfH (tupleKind (mixKind X.prog X.w)) a xs) (r : TRels κ s.heap l xs) : ∃ κ', Go κ κ' s s' ∧ St X κ' P env names ls (σ.newT k a l) s' ∧ κ' a = some (.dT k) := by
  have kt : KeepT κ _ _ := KeepT.of hs
  have F := S.w.fresh ha
  have hm : ∀ b j, κ b = some j → upd κ a (.dT k) b = some j := fun b j e => by
    rw [upd_ne]; exact e
    intro q; rw [q, F.k] at e; cases e
  obtain ⟨W, hm⟩ := S.w.alloc (s' := s') (k := .dT k) (a := a) (σ' := σ.newT k a l) ha hs hz hg hos rfl
    ⟨xs, hD, by
      show TRels _ _ (if k = k ∧ a = a then l else _) _
      rw [if_eq2]; exact r.mono hm kt⟩ (fun _ _ _ => rfl) (fun _ _ _ => rfl) (fun _ _ _ => rfl) (fun _ _ _ => rfl) (fun c b hb => if_ne2 hb)
  exact ⟨_, ⟨hm, kt⟩, ⟨W, S.f.fresh (s' := s') ha hs hm⟩, upd_self _ _ _⟩
noncomputable def pairV (p : Str × V) : V := .p2 (.str p.1) p.2
def fDict (kd : Nat) (a : V) (σ : H) (Q : V → H → Prop) : Prop := match a with
  | .ref (.lst k) x => ∃ ps : List (Str × V), σ.lst k x = ps.map pairV ∧ ps.length ≤ 1000 ∧ ∀ c e, σ.nxt ≤ c → Q (.ref (.dS kd) c) (σ.newS kd c (ps.foldl (fun acc p => dput acc p.1 p.2) []) e)
  | _ => False
theorem pairs_of {h : Heap} : ∀ {ps : List (Str × V)} {us : List Value}, VRels κ h (ps.map pairV) us → ∃ qs : List (Str × Value), PairsAt h us qs ∧ PRels κ h ps qs
  | [], [], _ => ⟨[], trivial, trivial⟩
  | p :: ps, u :: us, ⟨r, rs⟩ => by
    obtain ⟨x, u1, u2, rfl, ⟨_, T⟩, ⟨t, rfl⟩, r2⟩ := r
    obtain ⟨qs, a, b⟩ := pairs_of rs
    exact ⟨(p.1, u2) :: qs, ⟨⟨x, t, rfl, T⟩, a⟩, rfl, r2, b⟩
  | [], _ :: _, e => e.elim
  | _ :: _, [], e => e.elim
theorem PRels.foldl {h : Heap} : ∀ {ps : List (Str × V)} {qs : List (Str × Value)} {acc : List (Str × V)} {accv : List (Str × Value)}, PRels κ h ps qs → PRels κ h acc accv → PRels κ h (ps.foldl (fun acc p => NT.dput acc p.1 p.2) acc) (qs.foldl (fun acc p => stored acc p.1 p.2) accv)
  | [], [], _, _, _, r => r
  | p :: ps, q :: qs, acc, accv, ⟨e, r, t⟩, ra => by
    rw [List.foldl_cons, List.foldl_cons, e]
    exact PRels.foldl t (ra.dput r)
  | [], _ :: _, _, _, e, _ => e.elim
  | _ :: _, [], _, _, e, _ => e.elim
theorem b_dict {kd : Nat} : BiOk X (.type "dict") (fDict kd) := fun env names A κ P ls σ s Q n a u rm S r q => by
  unfold fDict at q; split at q
  · rename_i k a
    obtain ⟨rfl, hk⟩ := r
    obtain ⟨ps, e, hlen, q⟩ := q
    obtain ⟨vs, m, e1, rs⟩ := S.w.cell _ _ hk
    rw [e] at rs
    obtain ⟨qs, pa, pr⟩ := pairs_of rs
    refine wpAny_mono (wpAny_grow (dict_of_list (prog := X.prog) (w := X.w) (A := A) (E := no) (s := s) (ps := qs) (Q := fun u s' => u = .ref s.heap.objs.size ∧ ∃ h' tk, s' = { s with heap := h', toks := tk } ∧ h'.DictOf (strKind X.prog X.w) s.heap.objs.size (qs.foldl (fun acc p => stored acc p.1 p.2) []) ∧ (∀ b o, s.heap.get? b = some o → h'.get? b = some o))
      rm.h e1 pa (by rw [sizeLine_eq, ← pr.length]; exact pc1) fun h' tk D k => ⟨rfl, h', tk, rfl, D, k⟩)) (fun u s' ⟨⟨e2, h', tk, e3, D, k⟩, hz⟩ => ?_) fun _ _ e => e
    subst e2 e3
    have hlt : s.heap.objs.size < h'.objs.size := let ⟨_, _, _, e, _⟩ := D; Heap.lt_size e
    obtain ⟨κ', e, g, S', hk'⟩ := S.newS (k := kd) (s' := { s with heap := h', toks := tk }) (Nat.le_refl _) k hlt rfl rfl D (pr.foldl (acc := []) (accv := []) trivial)
    exact ⟨κ', _, .ref _ _, g, S', ⟨rfl, hk'⟩, q _ e S.w.size⟩
  · exact q.elim
def pDict0S (k : Nat) (_ : Ls) (σ : H) (Q : V → H → Prop) : Prop := ∀ a e, σ.nxt ≤ a → Q (.ref (.dS k) a) (σ.newS k a [] e)
def pDict0I (k : Nat) (_ : Ls) (σ : H) (Q : V → H → Prop) : Prop := ∀ a, σ.nxt ≤ a → Q (.ref (.dI k) a) (σ.newI k a [])
def pDict0T (k : Nat) (_ : Ls) (σ : H) (Q : V → H → Prop) : Prop := ∀ a, σ.nxt ≤ a → Q (.ref (.dT k) a) (σ.newT k a [])
theorem s_dict0S {k : Nat} : SoundE X n sc names (.Dict [] [] pos) (pDict0S k) := fun env A κ P ls σ s Q eo rm S q => wpAny_Dict_empty (by
  obtain ⟨κ', e, g, S', hk⟩ := S.newS (k := k) (a := s.heap.objs.size) (s' := { s with heap := s.heap.push { cls := .type "dict", data := .dict #[] } }) (l := []) (kvs := []) (Nat.le_refl _) (fun a o e => Heap.get?_push_of_some _ e) (by rw [Heap.size_push]; exact Nat.lt_succ_self _) rfl rfl (Heap.DictOf.new s.heap) trivial
  exact ⟨κ', _, .ref _ _, g, S', ⟨rfl, hk⟩, q _ e S.w.size⟩)
theorem s_dict0I {k : Nat} : SoundE X n sc names (.Dict [] [] pos) (pDict0I k) := fun env A κ P ls σ s Q eo rm S q => wpAny_Dict_empty (by
  obtain ⟨κ', g, S', hk⟩ := S.newI (k := k) (a := s.heap.objs.size) (s' := { s with heap := s.heap.push { cls := .type "dict", data := .dict #[] } }) (l := []) (kvs := []) (Nat.le_refl _) (fun a o e => Heap.get?_push_of_some _ e) (by rw [Heap.size_push]; exact Nat.lt_succ_self _) rfl rfl (Heap.DictOf.new s.heap) trivial
  exact ⟨κ', _, .ref _ _, g, S', ⟨rfl, hk⟩, q _ S.w.size⟩)
theorem s_dict0T {k : Nat} : SoundE X n sc names (.Dict [] [] pos) (pDict0T k) := fun env A κ P ls σ s Q eo rm S q => wpAny_Dict_empty (by
  obtain ⟨κ', g, S', hk⟩ := S.newT (k := k) (a := s.heap.objs.size) (s' := { s with heap := s.heap.push { cls := .type "dict", data := .dict #[] } }) (l := []) (xs := []) (Nat.le_refl _) (fun a o e => Heap.get?_push_of_some _ e) (by rw [Heap.size_push]; exact Nat.lt_succ_self _) rfl rfl (Heap.DictOfH.new s.heap) trivial
  exact ⟨κ', _, .ref _ _, g, S', ⟨rfl, hk⟩, q _ S.w.size⟩)
end
end
section
open PyProof.V PySem.Spec
def plusP (P : Addr → Obj → Prop) (a : Addr) (o : Obj) : Addr → Obj → Prop := fun b x => P b x ∨ (b = a ∧ x = o)
noncomputable def H.res (σ : H) (a : Addr) : H := { σ with nxt := a + 1 }
section
variable {X : GC} {κ : Km} {P : Addr → Obj → Prop} {env : Env} {names : List Str} {ls : Ls} {σ σ' : H} {s s' : Shared} {n : Nat} {sc : Scope} {A : Around} {pos apos : Pos}
structure Kept (X : GC) (P : Addr → Obj → Prop) (env : Env) (σ : H) (a : Addr) : Prop where
  z : X.hB.objs.size ≤ a
  p : ∀ o, ¬ P a o
  f : ¬ isFA env a
  n : a < σ.nxt
theorem CellAt.res {h : Heap} {k : Kd} {b a : Addr} (C : CellAt X κ h σ k b) : CellAt X κ h (σ.res a) k b := by cases k <;> exact C
theorem St.reserve (S : St X κ P env names ls σ s) {o : Obj} (ho : o.isFreed = false) : St X κ (plusP P s.heap.objs.size o) env names ls (σ.res s.heap.objs.size) { s with heap := s.heap.push o } ∧ Go κ κ s { s with heap := s.heap.push o } ∧ Kept X P env (σ.res s.heap.objs.size) s.heap.objs.size ∧ (s.heap.push o).get? s.heap.objs.size = some o := by
  have hs : ∀ a x, s.heap.get? a = some x → (s.heap.push o).get? a = some x := fun a x e => Heap.get?_push_of_some _ e
  have hnew := Heap.get?_push_size s.heap ho
  have F := S.w.fresh (x := s.heap.objs.size) (Nat.le_refl _)
  have S1 := S.push o
  have nf : ¬ isFA env s.heap.objs.size := fun h => Nat.lt_irrefl _ (S.lt h)
  refine ⟨⟨⟨S1.w.base, fun b x h => ?_, S1.w.apZ, fun b k x e h => ?_, fun b k e _ => Nat.lt_succ_of_lt (S.w.lt e), by rw [Heap.size_push]; exact Nat.le_refl _, fun b k e => (S1.w.cell b k e).res, S1.w.gens, S1.w.os, S1.w.szB⟩,
    S1.f.keep (fun _ _ e => e) (.refl _) (fun b hb => (S1.f.free b hb).k) (fun b hb x h => ?_) (fun _ _ _ e => e)⟩, ⟨fun _ _ e => e, KeepT.of hs⟩, ⟨S.w.szB, F.p, nf, Nat.lt_succ_self _⟩, hnew⟩
  · rcases h with h | ⟨rfl, rfl⟩
    · exact S1.w.prot b x h
    · exact hnew
  · rcases h with h | ⟨rfl, rfl⟩
    · exact S1.w.apP b k x e h
    · rw [F.k] at e; cases e
  · rcases h with h | ⟨rfl, rfl⟩
    · exact (S1.f.free b hb).p x h
    · exact nf hb
theorem St.unkeep {a : Addr} {o : Obj} (S : St X κ (plusP P a o) env names ls σ s) (K : ∀ o, ¬ P a o) : St X κ P env names ls σ s ∧ κ a = none ∧ s.heap.get? a = some o :=
  ⟨⟨S.w.weaken fun b x h => .inl h, S.f.keep (fun _ _ e => e) (.refl _) (fun b hb => (S.f.free b hb).k) (fun b hb x h => (S.f.free b hb).p x (.inl h)) (fun _ _ _ e => e)⟩,
    by cases e : κ a with
      | none => rfl
      | some k => exact absurd (.inr ⟨rfl, rfl⟩) (S.w.apP a k o e), S.w.prot a o (.inr ⟨rfl, rfl⟩)⟩
theorem St.adopt (S : St X κ P env names ls σ s) {a : Addr} {k : Kd} (hk : κ a = none) (hz : X.hB.objs.size ≤ a) (hP : ∀ o, ¬ P a o) (hf : ¬ isFA env a) (hlt : a < σ.nxt) (hT : ∀ its, ¬ IsTup s.heap a its) (hs : Heap.ExtBut a s.heap s'.heap) (hsz : s.heap.objs.size ≤ s'.heap.objs.size)
    (hg : s'.gens = s.gens) (hos : s'.os = s.os) (hn : σ'.nxt = σ.nxt) (hc : KeepT κ s.heap s'.heap → (∀ b j, κ b = some j → upd κ a k b = some j) → CellAt X (upd κ a k) s'.heap σ' k a)
    (h1 : ∀ c b, b ≠ a → σ'.fld c b = σ.fld c b) (h2 : ∀ c b, b ≠ a → σ'.lst c b = σ.lst c b) (h3 : ∀ c b, b ≠ a → σ'.dS c b = σ.dS c b) (h4 : ∀ c b, b ≠ a → σ'.dI c b = σ.dI c b) (h5 : ∀ c b, b ≠ a → σ'.dT c b = σ.dT c b) :
    Go κ (upd κ a k) s s' ∧ St X (upd κ a k) P env names ls σ' s' ∧ upd κ a k a = some k := by
  have hm : ∀ b j, κ b = some j → upd κ a k b = some j := fun b j e => by
    rw [upd_ne]; exact e
    intro q; rw [q, hk] at e; cases e
  have kt : KeepT κ s.heap s'.heap := KeepT.but hs hT
  refine ⟨⟨hm, kt⟩, ⟨⟨fun b o e => hs b o (fun q => ?_) (S.w.base b o e), fun b o e => hs b o (fun q => hP o (q ▸ e)) (S.w.prot b o e), fun b j e => ?_, fun b j o e q => ?_, fun b j e qt => ?_, hn ▸ Nat.le_trans S.w.size hsz, fun b j e => ?_, hg.trans S.w.gens, hos.trans S.w.os, Nat.le_trans S.w.szB hsz⟩,
    S.f.keep hm kt (fun b hb => ?_) (fun b hb => (S.f.free b hb).p) (fun b o hb e => hs b o (fun q => hf (q ▸ hb)) e)⟩, upd_self _ _ _⟩
  · rw [q, get_none_of_size hz] at e; cases e
  · by_cases q : b = a
    · rw [q]; exact hz
    · rw [upd_ne q] at e; exact S.w.apZ b j e
  · by_cases z : b = a
    · rw [z] at q; exact hP o q
    · rw [upd_ne z] at e; exact S.w.apP b j o e q
  · rw [hn]
    by_cases q : b = a
    · rw [q]; exact hlt
    · rw [upd_ne q] at e; exact S.w.low b j e qt
  · by_cases q : b = a
    · subst q; rw [upd_self] at e; cases e; exact hc kt hm
    · rw [upd_ne q] at e
      refine (S.w.cell b j e).ext hm hs kt ?_ (fun c _ => h1 c b q) (fun c _ => h2 c b q) (fun c _ => h3 c b q) (fun c _ => h4 c b q) (fun c _ => h5 c b q)
      rintro (z | ⟨c, rfl, z⟩)
      · exact q z
      · obtain ⟨_, d, e1, e2, _⟩ := S.w.cell b _ e
        have : d = a := Nat.succ.inj (e1.symm.trans z)
        rw [this, hk] at e2; cases e2
  · rw [upd_ne]; exact (S.f.free b hb).k
    intro q; exact hf (q ▸ hb)
end
def SoundVs (X : GC) (n : Nat) (sc : Scope) (names : List Str) (ks : List (Option Expr)) (es : List Expr) (xs : List Str) (t : Es) : Prop :=
  ∀ env A κ P ls σ s Q pos, EnvOk env sc → Rm n A → St X κ P env names ls σ s → t ls σ Q →
    wpAny X.M A (evalPairs (pairTrees ks es env pos)) (fun us s' => ∃ κ' σ' vs kvs, Go κ κ' s s' ∧ St X κ' P env names ls σ' s' ∧ PairsLit us kvs ∧ PRels κ' s'.heap (xs.zip vs) kvs ∧ vs.length = xs.length ∧ Q vs σ') no s
where PairsLit : List (Value × Value) → List (Str × Value) → Prop
  | [], [] => True
  | u :: us, p :: ps => (∃ t, u.1 = .str p.1 t) ∧ u.2 = p.2 ∧ PairsLit us ps
  | _, _ => False
theorem vs_nil {X : GC} {n : Nat} {sc : Scope} {names : List Str} : SoundVs X n sc names [] [] [] eNil := fun env A κ P ls σ s Q pos eo rm S q => wpAny_pure ⟨κ, σ, [], [], .refl _ _, S, trivial, trivial, rfl, q⟩
theorem vs_cons {X : GC} {n : Nat} {sc : Scope} {names : List Str} {x : Str} {xs : List Str} {p : Pos} {m : Nat} {ks : List (Option Expr)} {e : Expr} {es : List Expr} {t : E1} {tr : Es} (h : SoundE X n sc names e t) (hr : SoundVs X n sc names ks es xs tr) :
    SoundVs X n sc names (some (.Constant (.str x) m p) :: ks) (e :: es) (x :: xs) (eCons t tr) := fun env A κ P ls σ s Q pos eo rm S q => by
  unfold pairTrees evalPairs
  refine wpAny_bind (wpAny_Constant_str (wpAny_bind (wpAny_holding (wpAny_bind (h.run eo rm (S.toks _) q fun κ₁ σ₁ s₁ v u g₁ S₁ r q => wpAny_bind (wpAny_standAt (wpAny_pure ?_)))))))
  refine wpAny_bind (wpAny_holding (wpAny_mono (hr env A κ₁ P ls σ₁ s₁ _ pos eo rm S₁ q) (fun us s₂ ⟨κ₂, σ₂, vs, kvs, g₂, S₂, pl, pr, hl, q⟩ => wpAny_pure ?_) fun _ _ e => e))
  exact ⟨κ₂, σ₂, v :: vs, (x, u) :: kvs, ⟨(g₁.trans g₂).k, (g₁.trans g₂).t⟩, S₂, ⟨⟨_, rfl⟩, rfl, pl⟩, ⟨rfl, g₂.v r, pr⟩, by rw [List.length_cons, List.length_cons, hl], q⟩
theorem storeAll_lit {prog : Program} {w : World} {A : Around} {E : Value → Shared → Prop} {d : Addr} : ∀ (us : List (Value × Value)) (kvs acc : List (Str × Value)) (s : Shared) (Q : PUnit → Shared → Prop), SoundVs.PairsLit us kvs → s.heap.DictOf (strKind prog w) d acc → ((acc ++ kvs).map (·.1)).Nodup → (acc ++ kvs).length ≤ sizeLine →
    (∀ h' tk, h'.DictOf (strKind prog w) d (acc ++ kvs) → Heap.SameBut d s.heap h' → Q PUnit.unit { s with heap := h', toks := tk }) → wpAny (model prog w) A (storeAll d us) Q E s
  | [], [], acc, s, Q, _, D, _, _, h => by
    unfold storeAll
    rw [List.forIn_nil]
    exact wpAny_pure (h s.heap s.toks (by simpa using D) (Heap.SameBut.refl _ _))
  | (k, v) :: us, (x, u) :: kvs, acc, s, Q, ⟨⟨t, e1⟩, e2, pl⟩, D, nd, hz, h => by
    simp only at e1 e2
    subst e1 e2
    unfold storeAll
    rw [List.forIn_cons]
    have ndx : acc.any (fun kv => decide (kv.1 = x)) = false := by
      rw [List.any_eq_false]
      intro y hy
      simp only [decide_eq_true_eq]
      intro z
      rw [List.map_append, List.nodup_append] at nd
      exact nd.2.2 _ (List.mem_map_of_mem hy) x (by simp) z
    have st : stored acc x v = acc ++ [(x, v)] := by unfold stored; rw [ndx]; rfl
    have hz' : acc.length ≤ sizeLine := by rw [List.length_append] at hz; exact Nat.le_trans (Nat.le_add_right _ _) hz
    refine wpAny_bind (wpAny_bind (wpAny_dictSet_pairs (strKind_is prog w x t) D (fun h₁ D₁ hs₁ => wpAny_pure ?_) hz'))
    rw [st] at D₁
    refine storeAll_lit us kvs (acc ++ [(x, v)]) { s with heap := h₁, toks := s.toks + 1 } Q pl D₁ (by simpa using nd) (by simpa using hz) fun h' tk D' hs' => ?_
    exact h h' tk (by simpa using D') (hs₁.trans hs')
  | [], _ :: _, _, _, _, e, _, _, _, _ => e.elim
  | _ :: _, [], _, _, _, e, _, _, _, _ => e.elim
def pDictS (k : Nat) (xs : List Str) (t : Es) (ls : Ls) (σ : H) (Q : V → H → Prop) : Prop := ∀ a, σ.nxt ≤ a → t ls (σ.res a) fun vs σ' => a < σ'.nxt ∧ ∀ e, Q (.ref (.dS k) a) (σ'.setS k a (xs.zip vs) e)
theorem zip_keys {α β : Type} : ∀ {xs : List α} {vs : List β}, vs.length = xs.length → (xs.zip vs).map (·.1) = xs
  | [], [], _ => rfl
  | _ :: _, _ :: _, h => by rw [List.zip_cons_cons, List.map_cons, zip_keys (by simpa using h)]
theorem s_dictS {X : GC} {n : Nat} {sc : Scope} {names : List Str} {k : Nat} {ks : List (Option Expr)} {es : List Expr} {xs : List Str} {t : Es} {pos : Pos} (h : SoundVs X n sc names ks es xs t) (h1 : ks.all (·.isSome) = true) (h2 : ks.length = es.length) (h3 : ks ≠ []) (h4 : ks.length ≤ 15) (nd : xs.Nodup) (hxl : xs.length ≤ 15) :
    SoundE X n sc names (.Dict ks es pos) (pDictS k xs t) := fun env A κ P ls σ s Q eo rm S q => by
  refine wpAny_Dict_any h1 h2 h3 h4 ?_
  obtain ⟨S₁, g₁, K, ho⟩ := S.reserve (o := { cls := .type "dict", data := .dict #[] }) rfl
  refine wpAny_mono (h env A κ _ ls _ _ _ pos eo rm S₁ (q _ S.w.size)) (fun us s₂ ⟨κ₂, σ₂, vs, kvs, g₂, S₂, pl, pr, hl, q⟩ => ?_) fun _ _ e => e
  obtain ⟨S₂', hk, hd⟩ := S₂.unkeep K.p
  have D : s₂.heap.DictOf (strKind X.prog X.w) s.heap.objs.size [] := ⟨_, #[], 0, hd, ⟨rfl, rfl, rfl⟩, rfl, fun _ he => by simp at he, Pairs.nil, List.nodup_nil⟩
  have ek : kvs.map (·.1) = xs := by rw [← pr.keys, zip_keys hl]
  have el : kvs.length = xs.length := by rw [← ek, List.length_map]
  refine storeAll_lit us kvs [] s₂ _ pl D (by rw [List.nil_append, ek]; exact nd) (by rw [List.nil_append, el]; exact len_line (Nat.le_trans hxl (by decide))) fun h' tk D' hs' => ?_
  obtain ⟨e, D'⟩ := D'.dictAt
  have e1 : (σ₂.setS k s.heap.objs.size (xs.zip vs) e).dS k s.heap.objs.size = (xs.zip vs, e) := if_eq2
  obtain ⟨G, S₃, hk₃⟩ := S₂'.adopt (s' := { s₂ with heap := h', toks := tk }) (k := .dS k) (σ' := σ₂.setS k s.heap.objs.size (xs.zip vs) e) hk K.z K.p K.f q.1 (dictOf_cls D) hs'.extBut (Nat.le_of_eq hs'.1.symm) rfl rfl rfl
    (fun kt hm => ⟨_, by rw [e1]; exact ⟨D', by rw [List.nil_append]; exact pr.mono hm kt⟩⟩) (fun _ _ _ => rfl) (fun _ _ _ => rfl) (fun c b hb => if_ne2 hb) (fun _ _ _ => rfl) (fun _ _ _ => rfl)
  exact ⟨_, _, .ref _ _, (Go.trans (t := s₂) (Go.trans g₁ g₂) G), S₃, ⟨rfl, hk₃⟩, q.2 e⟩
end
section
open PyProof.V PySem.Spec
section
variable {X : GC} {κ : Km} {P : Addr → Obj → Prop} {env : Env} {names : List Str} {ls : Ls} {σ : H} {s s' : Shared} {n : Nat} {sc : Scope} {A : Around} {pos : Pos}
theorem CellAt.extZ {h h' : Heap} {k : Kd} {a : Addr} {Z : Addr → Prop} (C : CellAt X κ h σ k a) (e : κ a = some k) (hs : ∀ b o, ¬ Z b → h.get? b = some o → h'.get? b = some o) (hZ : ∀ b k, κ b = some k → ¬ Z b) : CellAt X κ h' σ k a := by
  have ht : KeepT κ h h' := fun b its q ⟨o, ho, r⟩ => ⟨o, hs b o (hZ b _ q) ho, r⟩
  have id' : ∀ a k, κ a = some k → κ a = some k := fun _ _ z => z
  have ha := hZ a k e
  cases k with
  | idict => trivial
  | tup => exact ⟨C.1, C.2.imp fun its t => ht _ _ C.1 t⟩
  | inst c =>
    obtain ⟨hc, d, rfl, hd, ho, m, hm, hr⟩ := C
    exact ⟨hc, d, rfl, hd, hs _ _ ha ho, m, hm.at fun o => hs _ o (hZ _ _ hd), hr.mono id' ht⟩
  | lst c =>
    obtain ⟨vs, n, ho, hr⟩ := C
    exact ⟨vs, n, hs _ _ ha ho, hr.mono id' ht⟩
  | dS c =>
    obtain ⟨kvs, ho, hr⟩ := C
    exact ⟨kvs, let ⟨o, es, h1, r⟩ := ho; ⟨o, es, hs _ _ ha h1, r⟩, hr.mono id' ht⟩
  | dI c =>
    obtain ⟨kvs, ho, hr⟩ := C
    exact ⟨kvs, let ⟨o, es, ep, h1, r⟩ := ho; ⟨o, es, ep, hs _ _ ha h1, r⟩, hr.mono id' ht⟩
  | dT c =>
    obtain ⟨xs, ⟨o, es, ep, h1, r1, r2, r3, r4, r5⟩, hr⟩ := C
    exact ⟨xs, ⟨o, es, ep, hs _ _ ha h1, r1, r2, r3, fun y hy => tupK ht (hr.tups y hy) (r4 y hy), r5⟩, hr.mono id' ht⟩
structure Own (X : GC) (κ : Km) (P : Addr → Obj → Prop) (env : Env) (I : Addr) : Prop where
  k : κ I = none
  z : X.hB.objs.size ≤ I
  p : ∀ o, ¬ P I o
  f : ¬ isFA env I
theorem St.moved (S : St X κ P env names ls σ s) {Z : Addr → Prop} (hO : ∀ b, Z b → Own X κ P env b) (hs : ∀ b o, ¬ Z b → s.heap.get? b = some o → s'.heap.get? b = some o) (hz : s.heap.objs.size ≤ s'.heap.objs.size) (hg : s'.gens = s.gens) (hos : s'.os = s.os) :
    KeepT κ s.heap s'.heap ∧ St X κ P env names ls σ s' := by
  have hZ : ∀ b k, κ b = some k → ¬ Z b := fun b k e z => by rw [(hO b z).k] at e; cases e
  have ht : KeepT κ s.heap s'.heap := fun b its q ⟨o, ho, r⟩ => ⟨o, hs b o (hZ b _ q) ho, r⟩
  refine ⟨ht, ⟨fun b o e => hs b o (fun z => ?_) (S.w.base b o e), fun b o e => hs b o (fun z => (hO b z).p o e) (S.w.prot b o e), S.w.apZ, S.w.apP, S.w.low, Nat.le_trans S.w.size hz, fun b k e => (S.w.cell b k e).extZ e hs hZ, hg.trans S.w.gens, hos.trans S.w.os, Nat.le_trans S.w.szB hz⟩,
    S.f.keep (fun _ _ e => e) ht (fun a ha => (S.f.free a ha).k) (fun a ha => (S.f.free a ha).p) (fun a o ha e => hs a o (fun z => (hO a z).f ha) e)⟩
  rw [get_none_of_size (hO b z).z] at e; cases e
theorem St.ownNew (S : St X κ P env names ls σ s) {I : Addr} (h : s.heap.objs.size ≤ I) : Own X κ P env I := by
  have F := S.w.fresh h
  exact ⟨F.k, Nat.le_trans S.w.szB h, F.p, fun z => absurd (S.lt z) (Nat.not_lt.mpr h)⟩
end
set_option genInjectivity false in
inductive IK where
  | lst (k : Nat) (a : Addr) (i : Nat)
  | rng (x : Int) (n : Nat)
  | enm (k : Nat) (a : Addr) (i : Nat)
  | zip (k : Nat) (a : Addr) (k' : Nat) (a' : Addr) (i : Nat)
  | key (k : Nat) (a : Addr) (i : Nat)
  | tup (l : List V) (i : Nat)
noncomputable def enumV : Nat → List V → List V
  | _, [] => []
  | i, v :: r => .p2 (.int i) v :: enumV (i + 1) r
noncomputable def zipV : List V → List V → List V
  | a :: l, b :: m => .p2 a b :: zipV l m
  | _, _ => []
noncomputable def rngV : Int → Nat → List V
  | _, 0 => []
  | x, n + 1 => .int x :: rngV (x + 1) n
noncomputable def IK.items : IK → H → List V
  | .lst k a i, σ => (σ.lst k a).drop i
  | .rng x n, _ => rngV x n
  | .enm k a i, σ => enumV i ((σ.lst k a).drop i)
  | .zip k a k' a' i, σ => zipV ((σ.lst k a).drop i) ((σ.lst k' a').drop i)
  | .key k a i, σ => ((σ.dS k a).1.drop i).map fun p => .str p.1
  | .tup l i, _ => l.drop i
noncomputable def IK.adv : IK → IK
  | .lst k a i => .lst k a (i + 1)
  | .rng x n => .rng (x + 1) (n - 1)
  | .enm k a i => .enm k a (i + 1)
  | .zip k a k' a' i => .zip k a k' a' (i + 1)
  | .key k a i => .key k a (i + 1)
  | .tup l i => .tup l (i + 1)
inductive EnmO (κ : Km) (h : Heap) (k : Nat) (a : Addr) (i : Nat) (it : Value) (own : List Addr) : Prop where
  | mk (e I : Addr) (old : Value) (e1 : it = .ref e) (e2 : own = [e, I]) (E : IsEnum h e I i old) (L : h.IsListIter I a i) (n : e ≠ I) (k : κ a = some (.lst k))
inductive ZipO (κ : Km) (h : Heap) (k : Nat) (a : Addr) (k' : Nat) (a' : Addr) (i : Nat) (it : Value) (own : List Addr) : Prop where
  | mk (z TI TO i1 i2 : Addr) (x y : Value) (e1 : it = .ref z) (e2 : own = [z, TI, TO, i1, i2]) (hz : IsZip h z TI TO .none) (hTI : IsPair h TI (.ref i1) (.ref i2)) (hTO : IsPair h TO x y) (h1 : h.IsListIter i1 a i) (h2 : h.IsListIter i2 a' i)
    (d : TI ≠ z ∧ TO ≠ z ∧ i1 ≠ z ∧ i2 ≠ z ∧ TI ≠ TO ∧ TI ≠ i1 ∧ TI ≠ i2 ∧ TO ≠ i1 ∧ TO ≠ i2 ∧ i1 ≠ i2) (k : κ a = some (.lst k)) (k' : κ a' = some (.lst k'))
def ItObj (κ : Km) (h : Heap) (σ : H) : IK → Value → List Addr → Prop
  | .lst k a i, it, own => ∃ I, it = .ref I ∧ own = [I] ∧ h.IsListIter I a i ∧ κ a = some (.lst k)
  | .rng x n, it, own => ∃ I, it = .ref I ∧ own = [I] ∧ IsRangeIter h I x n 1
  | .enm k a i, it, own => EnmO κ h k a i it own
  | .zip k a k' a' i, it, own => ZipO κ h k a k' a' i it own
  | .key k a i, it, own => ∃ I, it = .ref I ∧ own = [I] ∧ h.IsKeyIter I a i (σ.dS k a).1.length (σ.dS k a).2 ∧ κ a = some (.dS k)
  | .tup l i, it, own => ∃ I t us, it = .ref I ∧ own = [I] ∧ IsTupIter h I t i ∧ TupAt κ h t us ∧ VRels κ h l us.toList
def ItSt (X : GC) (κ : Km) (P : Addr → Obj → Prop) (env : Env) (σ : H) (s : Shared) (it : Value) (ik : IK) : Prop := ∃ own, (∀ b ∈ own, Own X κ P env b) ∧ ItObj κ s.heap σ ik it own
def NextP (X : GC) (κ : Km) (P : Addr → Obj → Prop) (env : Env) (names : List Str) (ls : Ls) (σ : H) (s : Shared) (it : Value) (ik : IK) (x : Option Value) (s' : Shared) : Prop := match ik.items σ with
  | [] => x = none ∧ KeepT κ s.heap s'.heap ∧ St X κ P env names ls σ s'
  | v :: _ => ∃ u κ', x = some u ∧ Go κ κ' s s' ∧ St X κ' P env names ls σ s' ∧ ItSt X κ' P env σ s' it ik.adv ∧ VRel κ' s'.heap v u
theorem NextP.nil {X : GC} {κ : Km} {P : Addr → Obj → Prop} {env : Env} {names : List Str} {ls : Ls} {σ : H} {s : Shared} {it : Value} {ik : IK} {s' : Shared} (h : ik.items σ = []) (kt : KeepT κ s.heap s'.heap) (S' : St X κ P env names ls σ s') : NextP X κ P env names ls σ s it ik none s' := by
  unfold NextP; rw [h]; exact ⟨rfl, kt, S'⟩
theorem NextP.cons {X : GC} {κ κ' : Km} {P : Addr → Obj → Prop} {env : Env} {names : List Str} {ls : Ls} {σ : H} {s : Shared} {it : Value} {ik : IK} {s' : Shared} {v : V} {r : List V} {u : Value} (h : ik.items σ = v :: r) (g : Go κ κ' s s') (S' : St X κ' P env names ls σ s') (I : ItSt X κ' P env σ s' it ik.adv) (q : VRel κ' s'.heap v u) : NextP X κ P env names ls σ s it ik (some u) s' := by
  unfold NextP; rw [h]; exact ⟨u, κ', rfl, g, S', I, q⟩
theorem NextP.none {X : GC} {κ : Km} {P : Addr → Obj → Prop} {env : Env} {names : List Str} {ls : Ls} {σ : H} {s : Shared} {it : Value} {ik : IK} {s' : Shared} {r : List V} (h : NextP X κ P env names ls σ s it ik none s') (hr : ik.items σ = r) : r = [] ∧ KeepT κ s.heap s'.heap ∧ St X κ P env names ls σ s' := by
  unfold NextP at h
  rw [hr] at h
  cases r with
  | nil => exact ⟨rfl, h.2⟩
  | cons v r => obtain ⟨u, _, e, _⟩ := h; cases e
inductive NextS (X : GC) (κ : Km) (P : Addr → Obj → Prop) (env : Env) (names : List Str) (ls : Ls) (σ : H) (s : Shared) (it : Value) (ik : IK) (u : Value) (r : List V) (s' : Shared) : Prop where
  | mk (v : V) (r' : List V) (κ' : Km) (own : List Addr) (e : r = v :: r') (g : Go κ κ' s s') (S : St X κ' P env names ls σ s') (O : ∀ b ∈ own, Own X κ' P env b) (I : ItObj κ' s'.heap σ ik.adv it own) (rv : VRel κ' s'.heap v u)
theorem NextP.some {X : GC} {κ : Km} {P : Addr → Obj → Prop} {env : Env} {names : List Str} {ls : Ls} {σ : H} {s : Shared} {it : Value} {ik : IK} {s' : Shared} {u : Value} {r : List V} (h : NextP X κ P env names ls σ s it ik (some u) s') (hr : ik.items σ = r) : NextS X κ P env names ls σ s it ik u r s' := by
  unfold NextP at h
  rw [hr] at h
  cases r with
  | nil => cases h.1
  | cons v r => obtain ⟨u', κ', e, g, S, ⟨own, O, I⟩, rv⟩ := h; cases e; exact ⟨v, r, κ', own, rfl, g, S, O, I, rv⟩
noncomputable def isNm : Expr → Bool | .Name .. => true | _ => false
noncomputable def isTp : Expr → Bool | .Tuple .. => true | _ => false
noncomputable def tgOk : IK → Expr → Bool
  | .lst .., e => isNm e || isTp e
  | .rng .., e => isNm e
  | .enm .., e => isTp e
  | .zip .., e => isTp e
  | .key .., e => isNm e
  | .tup .., e => isNm e
theorem go_nm {e : Expr} {it v : Value} (h : isNm e = true) : letOwnedTupleGo e it v = pure () := by cases e <;> first | rfl | cases h
section
variable {X : GC} {κ : Km} {P : Addr → Obj → Prop} {env : Env} {names : List Str} {ls : Ls} {σ : H} {s s' : Shared} {n : Nat} {sc : Scope} {A : Around} {pos : Pos}
theorem drop_cons {α : Type} {l : List α} {i : Nat} {v : α} {r : List α} (h : l.drop i = v :: r) : l[i]? = some v ∧ l.drop (i + 1) = r := by
  constructor
  · have := congrArg (·[0]?) h
    simpa [List.getElem?_drop] using this
  · have := congrArg List.tail h
    simpa [List.tail_drop] using this
theorem drop_nil {α : Type} {l : List α} {i : Nat} (h : l.drop i = []) : l[i]? = none := by
  rw [List.drop_eq_nil_iff] at h; exact List.getElem?_eq_none h
abbrev Drawn (X : GC) (A : Around) (tg : Expr) (it : Value) (R : Option Value → Shared → Prop) (s : Shared) : Prop :=
  wpAny X.M A (pyNext it) (fun r s₁ => match r with | none => R none s₁ | some v => wpAny X.M A (letOwnedTupleGo tg it v) (fun _ s₂ => R (some v) s₂) no s₁) no s
theorem St.mark (S : St X κ P env names ls σ s) {a : Addr} {its : Array Value} (T : IsTup s.heap a its) (O : Own X κ P env a) :
    St X (upd κ a .tup) P env names ls σ s ∧ (∀ b j, κ b = some j → upd κ a .tup b = some j) ∧ TupAt (upd κ a .tup) s.heap a its := by
  have mono : ∀ b j, κ b = some j → upd κ a .tup b = some j := fun b j z => by
    rw [upd_ne]; exact z
    intro w; rw [w, O.k] at z; cases z
  refine ⟨⟨⟨S.w.base, S.w.prot, fun b j z => ?_, fun b j o z w => ?_, fun b j z hj => ?_, S.w.size, fun b j z => ?_, S.w.gens, S.w.os, S.w.szB⟩, S.f.keep mono (.refl _) (fun b hb => ?_) (fun b hb => (S.f.free b hb).p) (fun _ _ _ z => z)⟩, mono, upd_self _ _ _, T⟩
  · by_cases w : b = a
    · rw [w]; exact O.z
    · rw [upd_ne w] at z; exact S.w.apZ b j z
  · by_cases v : b = a
    · rw [v] at w; exact O.p o w
    · rw [upd_ne v] at z; exact S.w.apP b j o z w
  · by_cases w : b = a
    · subst w; rw [upd_self] at z; cases z; exact absurd rfl hj
    · rw [upd_ne w] at z; exact S.w.low b j z hj
  · by_cases w : b = a
    · subst w; rw [upd_self] at z; cases z; exact ⟨upd_self _ _ _, _, T⟩
    · rw [upd_ne w] at z
      refine (S.w.cell b j z).ext (x := a) mono (Heap.ExtBut.refl _ _) (.refl _) ?_ (fun c _ => rfl) (fun c _ => rfl) (fun c _ => rfl) (fun c _ => rfl) (fun c _ => rfl)
      rintro (y | ⟨c, rfl, y⟩)
      · exact w y
      · obtain ⟨_, d, e1, e2, _⟩ := S.w.cell b _ z
        have : d = a := Nat.succ.inj (e1.symm.trans y)
        rw [this, O.k] at e2; cases e2
  · rw [upd_ne]; exact (S.f.free b hb).k
    intro w; exact O.f (w ▸ hb)
theorem Own.mark {a b : Addr} (O : Own X κ P env b) (h : b ≠ a) : Own X (upd κ a .tup) P env b := ⟨by rw [upd_ne h]; exact O.k, O.z, O.p, O.f⟩
theorem isTp_ex {e : Expr} (h : isTp e = true) : ∃ es k p, e = .Tuple es k p := by cases e <;> first | exact ⟨_, _, _, rfl⟩ | exact no_ff h
theorem go_list {es : List Expr} {k : Nat} {p : Pos} {I a i : Nat} {u : Value} {Q : Unit → Shared → Prop} {E : Value → Shared → Prop} (hit : s.heap.IsListIter I a i) (h : Q () s) : wpAny X.M A (letOwnedTupleGo (.Tuple es k p) (.ref I) u) Q E s := by
  cases u <;> first | exact wpAny_letOwnedTupleGo_listiter hit h | exact wpAny_pure h
theorem vs_end {h : Heap} {l : List V} {vs : Array Value} {i : Nat} (rs : VRels κ h l vs.toList) (e : l.drop i = []) : vs[i]? = none := by
  rw [← Array.getElem?_toList, List.getElem?_eq_none_iff, ← rs.length]
  exact List.getElem?_eq_none_iff.mp (drop_nil e)
theorem St.mv1 (S : St X κ P env names ls σ s) {I : Addr} (O : Own X κ P env I) {h' : Heap} {tk : Nat} (he : Heap.ExtBut I s.heap h') (hz : s.heap.objs.size ≤ h'.objs.size) : KeepT κ s.heap h' ∧ St X κ P env names ls σ { s with heap := h', toks := tk } :=
  S.moved (s' := { s with heap := h', toks := tk }) (Z := fun b => b = I) (fun b e => e ▸ O) (fun b o hb e => he b o hb e) hz rfl rfl
abbrev EndQ (I : Addr) (s : Shared) (r : Option Value) (s' : Shared) : Prop := r = none ∧ ∃ h', Heap.ExtBut I s.heap h' ∧ s' = { s with heap := h' }
theorem end_step {I : Addr} {it : Value} {ik : IK} {tg : Expr} (S : St X κ P env names ls σ s) (O : Own X κ P env I) (hn : ik.items σ = []) (w : wpAny X.M A (pyNext it) (EndQ I s) no s) : Drawn X A tg it (NextP X κ P env names ls σ s it ik) s := by
  refine wpAny_mono (wpAny_grow w) (fun r s' h => ?_) fun _ _ e => e
  obtain ⟨⟨e1, h', he, e2⟩, hz⟩ := h
  subst e1 e2
  obtain ⟨kt, S'⟩ := S.mv1 (tk := s.toks) O he hz
  exact NextP.nil hn kt S'
theorem next_lst {k : Nat} {a : Addr} {i : Nat} {it : Value} {tg : Expr} (rm : Rm n A) (S : St X κ P env names ls σ s) (I : ItSt X κ P env σ s it (.lst k a i)) (ht : tgOk (.lst k a i) tg = true) : Drawn X A tg it (NextP X κ P env names ls σ s it (.lst k a i)) s := by
  obtain ⟨own, hO, I, rfl, rfl, hit, hk⟩ := I
  obtain ⟨vs, m, ho, rs⟩ := S.w.cell _ _ hk
  have hL : s.heap.IsList a vs := ⟨_, ho, rfl, m, rfl⟩
  have oI := hO I (.head _)
  cases e : (σ.lst k a).drop i with
  | nil => exact end_step S oI e (wpAny_pyNext_list_end rm.h hit hL (vs_end rs e) fun h' he => ⟨rfl, h', he, rfl⟩)
  | cons v r =>
    obtain ⟨hx, hr⟩ := drop_cons e
    obtain ⟨u, hu, ru⟩ := rs.get hx
    rw [Array.getElem?_toList] at hu
    refine wpAny_pyNext_list_item hit hL hu fun h' hit' hs => ?_
    obtain ⟨kt, S'⟩ := S.mv1 (tk := s.toks) oI hs.extBut (Nat.le_of_eq hs.1.symm)
    have fin := NextP.cons (it := .ref I) (ik := .lst k a i) e ⟨fun _ _ e => e, kt⟩ S' ⟨[I], hO, I, rfl, rfl, hit', hk⟩ (ru.mono (fun _ _ z => z) kt)
    show wpAny X.M A (letOwnedTupleGo tg _ u) _ _ _
    rcases (Bool.or_eq_true _ _).mp ht with ht | ht
    · rw [go_nm ht]; exact wpAny_pure fin
    · obtain ⟨_, _, _, rfl⟩ := isTp_ex ht
      exact go_list hit' fin
theorem next_rng {x : Int} {m : Nat} {it : Value} {tg : Expr} (rm : Rm n A) (S : St X κ P env names ls σ s) (I : ItSt X κ P env σ s it (.rng x m)) (ht : tgOk (.rng x m) tg = true) : Drawn X A tg it (NextP X κ P env names ls σ s it (.rng x m)) s := by
  obtain ⟨own, hO, I, rfl, rfl, hit⟩ := I
  have oI := hO I (.head _)
  cases m with
  | zero => exact end_step S oI rfl (wpAny_pyNext_range_end rm.h hit (Int.le_refl _) fun h' he => ⟨rfl, h', he, rfl⟩)
  | succ m =>
    refine wpAny_pyNext_range_item hit (Int.natCast_pos.mpr (Nat.succ_pos m)) fun h' hit' hs => ?_
    obtain ⟨kt, S'⟩ := S.mv1 (tk := s.toks + 1) oI hs.extBut (Nat.le_of_eq hs.1.symm)
    show wpAny X.M A (letOwnedTupleGo tg _ _) _ _ _
    rw [go_nm ht]
    rw [show ((m + 1 : Nat) : Int) - 1 = (m : Int) by omega] at hit'
    exact wpAny_pure (NextP.cons (v := .int x) (r := rngV (x + 1) m) rfl ⟨fun _ _ e => e, kt⟩ S' ⟨[I], hO, I, rfl, rfl, hit'⟩ ⟨_, rfl⟩)
theorem next_tup {l : List V} {i : Nat} {it : Value} {tg : Expr} (rm : Rm n A) (S : St X κ P env names ls σ s) (I : ItSt X κ P env σ s it (.tup l i)) (ht : tgOk (.tup l i) tg = true) : Drawn X A tg it (NextP X κ P env names ls σ s it (.tup l i)) s := by
  obtain ⟨own, hO, I, t, us, rfl, rfl, hit, T, rs⟩ := I
  have oI := hO I (.head _)
  cases e : l.drop i with
  | nil => exact end_step S oI e (next_tuple_end rm.h hit T.2 (vs_end rs e) fun h' he => ⟨rfl, h', he, rfl⟩)
  | cons v r =>
    obtain ⟨hx, hr⟩ := drop_cons e
    obtain ⟨u, hu, ru⟩ := rs.get hx
    rw [Array.getElem?_toList] at hu
    refine next_tuple_item hit T.2 hu fun h' hit' hs => ?_
    obtain ⟨kt, S'⟩ := S.mv1 (tk := s.toks) oI hs.extBut (Nat.le_of_eq hs.1.symm)
    show wpAny X.M A (letOwnedTupleGo tg _ u) _ _ _
    rw [go_nm ht]
    exact wpAny_pure (NextP.cons (ik := .tup l i) e ⟨fun _ _ e => e, kt⟩ S' ⟨[I], hO, I, t, us, rfl, rfl, hit', T.mono (fun _ _ z => z) kt, rs.mono (fun _ _ z => z) kt⟩ (ru.mono (fun _ _ z => z) kt))
theorem next_key {k : Nat} {a : Addr} {i : Nat} {it : Value} {tg : Expr} (rm : Rm n A) (S : St X κ P env names ls σ s) (I : ItSt X κ P env σ s it (.key k a i)) (ht : tgOk (.key k a i) tg = true) : Drawn X A tg it (NextP X κ P env names ls σ s it (.key k a i)) s := by
  obtain ⟨own, hO, I, rfl, rfl, hit, hk⟩ := I
  obtain ⟨kvs, D, rs⟩ := S.w.cell _ _ hk
  have hlen := rs.length
  rw [hlen] at hit
  have oI := hO I (.head _)
  cases e : (σ.dS k a).1.drop i with
  | nil => exact end_step S oI (congrArg (List.map fun p : Str × V => V.str p.1) e) (wpAny_pyNext_dict_end rm.h hit D (by
      rw [List.getElem?_eq_none_iff, ← hlen]
      exact List.getElem?_eq_none_iff.mp (drop_nil e)) fun h' he => ⟨rfl, h', he, rfl⟩)
  | cons v r =>
    obtain ⟨hx, hr⟩ := drop_cons e
    have hlt : i < kvs.length := hlen ▸ (List.getElem?_eq_some_iff.mp hx).1
    have hy : kvs[i]? = some kvs[i] := List.getElem?_eq_getElem hlt
    have ek : kvs[i].1 = v.1 := by
      have h1 : ((σ.dS k a).1.map (·.1))[i]? = some v.1 := by rw [List.getElem?_map, hx]; rfl
      rw [rs.keys, List.getElem?_map, hy] at h1
      exact Option.some.inj h1
    refine wpAny_pyNext_dict_item hit D hy fun key h' hkey hit' hs => ?_
    obtain ⟨kt, S'⟩ := S.mv1 (tk := s.toks) oI hs.extBut (Nat.le_of_eq hs.1.symm)
    show wpAny X.M A (letOwnedTupleGo tg _ _) _ _ _
    rw [go_nm ht]
    refine wpAny_pure ?_
    obtain ⟨t, rfl⟩ := Value.isStrOf_shape (x := kvs[i].1) hkey
    rw [← hlen] at hit'
    exact NextP.cons (ik := .key k a i) (congrArg (List.map fun p : Str × V => V.str p.1) e) ⟨fun _ _ e => e, kt⟩ S' ⟨[I], hO, I, rfl, rfl, hit', hk⟩ ⟨t, by rw [ek]⟩
theorem next_enm {k : Nat} {a : Addr} {i : Nat} {it : Value} {tg : Expr} (rm : Rm n A) (S : St X κ P env names ls σ s) (I : ItSt X κ P env σ s it (.enm k a i)) (ht : tgOk (.enm k a i) tg = true) : Drawn X A tg it (NextP X κ P env names ls σ s it (.enm k a i)) s := by
  obtain ⟨own, hO, e, I, old, rfl, rfl, hE, hit, hne, hk⟩ := I
  obtain ⟨vs, m, ho, rs⟩ := S.w.cell _ _ hk
  have hL : s.heap.IsList a vs := ⟨_, ho, rfl, m, rfl⟩
  obtain ⟨_, _, _, rfl⟩ := isTp_ex ht
  cases q : (σ.lst k a).drop i with
  | nil => exact end_step S (hO I (.tail _ (.head _))) (congrArg (enumV i) q) (wpAny_pyNext_enum_end rm.h hE hit hL (vs_end rs q) fun h' he => ⟨rfl, h', he, rfl⟩)
  | cons v r =>
    obtain ⟨hx, hr⟩ := drop_cons q
    obtain ⟨u, hu, ru⟩ := rs.get hx
    rw [Array.getElem?_toList] at hu
    refine wpAny_pyNext_enum_item hE hit hL hu hne fun h₁ hE₁ hit₁ hT₁ hz₁ hk₁ => ?_
    refine wpAny_letOwnedTupleGo_enum hE₁ fun h₂ hE₂ hs₂ => ?_
    have hlt : e < s.heap.objs.size := Heap.lt_size hE
    have hltI : I < s.heap.objs.size := let ⟨_, q, _⟩ := hit; Heap.lt_size q
    obtain ⟨kt, S'⟩ := S.moved (s' := { s with heap := h₂, toks := s.toks + 1 }) (Z := fun b => b ∈ [e, I]) hO (fun b o hb z => hs₂.extBut b o (fun w => hb (w ▸ .head _)) (hk₁ b o (fun w => hb (w ▸ .head _)) (fun w => hb (w ▸ .tail _ (.head _))) z)) (by show _ ≤ h₂.objs.size; rw [hs₂.1, hz₁]; exact Nat.le_succ _) rfl rfl
    obtain ⟨S₃, mono, T₃⟩ := S'.mark (a := s.heap.objs.size) (its := #[.int i s.toks, u]) ⟨_, hs₂.extBut _ _ (Nat.ne_of_gt hlt) hT₁, rfl, 0, rfl⟩ (S.ownNew (Nat.le_refl _))
    have hE₂' : IsEnum h₂ e I ((i + 1 : Nat) : Int) u := by rw [Int.natCast_add]; exact hE₂
    exact NextP.cons (ik := .enm k a i) (v := .p2 (.int i) v) (r := enumV (i + 1) r) (congrArg (enumV i) q) ⟨mono, kt⟩ S₃
      ⟨[e, I], List.forall_mem_cons.mpr ⟨(hO e (.head _)).mark (Nat.ne_of_lt hlt), List.forall_mem_cons.mpr ⟨(hO I (.tail _ (.head _))).mark (Nat.ne_of_lt hltI), fun _ h => nomatch h⟩⟩, e, I, u, rfl, rfl, hE₂', hit₁.extBut hs₂.extBut (Ne.symm hne), hne, mono _ _ hk⟩ ⟨_, _, _, rfl, T₃, ⟨_, rfl⟩, ru.mono mono kt⟩
end
end
section
open PyProof.V PySem.Spec
section
variable {X : GC} {κ : Km} {P : Addr → Obj → Prop} {env : Env} {names : List Str} {ls : Ls} {σ : H} {s s' : Shared} {n : Nat} {sc : Scope} {A : Around} {pos : Pos}
theorem zip_nil {l l' : List V} (q : zipV l l' = []) : l = [] ∨ l' = [] := by
  cases l with
  | nil => exact .inl rfl
  | cons v r => cases l' with
    | nil => exact .inr rfl
    | cons v' r' => cases q
theorem zip_cons {l l' : List V} {w : V} {r : List V} (q : zipV l l' = w :: r) : ∃ v m v' m', l = v :: m ∧ l' = v' :: m' ∧ w = .p2 v v' ∧ r = zipV m m' := by
  cases l with
  | nil => cases q
  | cons v m => cases l' with
    | nil => cases q
    | cons v' m' => cases q; exact ⟨v, m, v', m', rfl, rfl, rfl, rfl⟩
theorem mem5 {z TI TO i1 i2 : Addr} {p : Addr → Prop} (a : p z) (b : p TI) (c : p TO) (d : p i1) (e : p i2) : ∀ x ∈ [z, TI, TO, i1, i2], p x :=
  List.forall_mem_cons.mpr ⟨a, List.forall_mem_cons.mpr ⟨b, List.forall_mem_cons.mpr ⟨c, List.forall_mem_cons.mpr ⟨d, List.forall_mem_cons.mpr ⟨e, fun _ h => (List.not_mem_nil h).elim⟩⟩⟩⟩⟩
theorem St.mv5 (S : St X κ P env names ls σ s) {z TI TO i1 i2 : Addr} (hO : ∀ b ∈ [z, TI, TO, i1, i2], Own X κ P env b) {h' : Heap} (he : ∀ b o, b ≠ z → b ≠ TO → b ≠ i1 → b ≠ i2 → s.heap.get? b = some o → h'.get? b = some o) (hz : s.heap.objs.size ≤ h'.objs.size) : KeepT κ s.heap h' ∧ St X κ P env names ls σ { s with heap := h' } :=
  S.moved (s' := { s with heap := h' }) (Z := fun b => b ∈ [z, TI, TO, i1, i2]) hO (fun b o hb e => he b o (fun q => hb (q ▸ .head _)) (fun q => hb (q ▸ .tail _ (.tail _ (.head _)))) (fun q => hb (q ▸ .tail _ (.tail _ (.tail _ (.head _))))) (fun q => hb (q ▸ .tail _ (.tail _ (.tail _ (.tail _ (.head _)))))) e) hz rfl rfl
theorem Own.ne {k : Nat} {a b : Addr} (O : Own X κ P env b) (h : κ a = some (.lst k)) : a ≠ b := fun e => by rw [e, O.k] at h; cases h
theorem next_zip {k k' : Nat} {a a' : Addr} {i : Nat} {it : Value} {tg : Expr} (rm : Rm n A) (S : St X κ P env names ls σ s) (I : ItSt X κ P env σ s it (.zip k a k' a' i)) (ht : tgOk (.zip k a k' a' i) tg = true) : Drawn X A tg it (NextP X κ P env names ls σ s it (.zip k a k' a' i)) s := by
  obtain ⟨own, hO, z, TI, TO, i1, i2, x, y, rfl, rfl, hz, hTI, hTO, h1, h2, ⟨d1, d2, d3, d4, d5, d6, d7, d8, d9, d10⟩, hk, hk'⟩ := I
  obtain ⟨vs, m, ho, rs⟩ := S.w.cell _ _ hk
  obtain ⟨vs', m', ho', rs'⟩ := S.w.cell _ _ hk'
  have hL : s.heap.IsList a vs := ⟨_, ho, rfl, m, rfl⟩
  have hL' : s.heap.IsList a' vs' := ⟨_, ho', rfl, m', rfl⟩
  have oz := hO z (.head _)
  have oT := hO TO (.tail _ (.tail _ (.head _)))
  have o1 := hO i1 (.tail _ (.tail _ (.tail _ (.head _))))
  have o2 := hO i2 (.tail _ (.tail _ (.tail _ (.tail _ (.head _)))))
  have D : ZipApart z TI TO i1 i2 a a' := ⟨d1, d2, d3, d4, d5, d6, d7, d8, d9, d10, oz.ne hk, oT.ne hk, o1.ne hk, o2.ne hk, oz.ne hk', oT.ne hk', o1.ne hk', o2.ne hk'⟩
  obtain ⟨_, _, _, rfl⟩ := isTp_ex ht
  cases q : zipV ((σ.lst k a).drop i) ((σ.lst k' a').drop i) with
  | nil =>
    refine wpAny_mono (wpAny_grow (wpAny_pyNext_zip_end (Q := fun r s' => r = none ∧ ∃ h', (∀ c o, c ≠ z → c ≠ TO → c ≠ i1 → c ≠ i2 → s.heap.get? c = some o → h'.get? c = some o) ∧ s' = { s with heap := h' }) rm.h D hz hTI hTO h1 h2 hL hL' ((zip_nil q).imp (vs_end rs) (vs_end rs')) fun h' he => ⟨rfl, h', he, rfl⟩)) (fun r s' h => ?_) fun _ _ e => e
    obtain ⟨⟨e1, h', he, e2⟩, hsz⟩ := h
    subst e1 e2
    obtain ⟨kt, S'⟩ := S.mv5 hO he hsz
    exact NextP.nil q kt S'
  | cons w r =>
    obtain ⟨v, l, v', l', e1, e2, rfl, rfl⟩ := zip_cons q
    obtain ⟨u, hu, ru⟩ := rs.get (drop_cons e1).1
    obtain ⟨u', hu', ru'⟩ := rs'.get (drop_cons e2).1
    rw [Array.getElem?_toList] at hu hu'
    refine wpAny_pyNext_zip_item D hz hTI hTO h1 h2 hL hL' hu hu' fun h₁ hz₁ hTO₁ h1₁ h2₁ hT₁ hsz₁ hk₁ => ?_
    refine wpAny_letOwnedTupleGo_zip hz₁ fun h₂ hz₂ hs₂ => ?_
    have ltz : z < s.heap.objs.size := Heap.lt_size hz
    have ltTI : TI < s.heap.objs.size := Heap.lt_size hTI
    have ltTO : TO < s.heap.objs.size := Heap.lt_size hTO
    have lt1 : i1 < s.heap.objs.size := let ⟨_, q, _⟩ := h1; Heap.lt_size q
    have lt2 : i2 < s.heap.objs.size := let ⟨_, q, _⟩ := h2; Heap.lt_size q
    obtain ⟨kt, S'⟩ := S.mv5 (h' := h₂) hO (fun b o c1 c2 c3 c4 e => hs₂.extBut b o c1 (hk₁ b o c1 c2 c3 c4 e)) (by rw [hs₂.1, hsz₁]; exact Nat.le_succ _)
    obtain ⟨S₃, mono, T₃⟩ := S'.mark (a := s.heap.objs.size) (its := #[u, u']) ⟨_, hs₂.extBut _ _ (Nat.ne_of_gt ltz) hT₁, rfl, 0, rfl⟩ (S.ownNew (Nat.le_refl _))
    exact NextP.cons (ik := .zip k a k' a' i) q ⟨mono, kt⟩ S₃
      ⟨_, fun b hb => (hO b hb).mark (Nat.ne_of_lt (mem5 (p := (· < s.heap.objs.size)) ltz ltTI ltTO lt1 lt2 b hb)), z, TI, TO, i1, i2, u, u', rfl, rfl, hz₂, hs₂.extBut _ _ d1 (hk₁ _ _ d1 d5 d6 d7 hTI), hs₂.extBut _ _ d2 hTO₁, h1₁.extBut hs₂.extBut d3, h2₁.extBut hs₂.extBut d4,
        ⟨d1, d2, d3, d4, d5, d6, d7, d8, d9, d10⟩, mono _ _ hk, mono _ _ hk'⟩ ⟨_, u, u', rfl, T₃, ru.mono mono kt, ru'.mono mono kt⟩
end
end
section
open PyProof.V PySem.Spec
def IK.same : IK → H → H → Prop
  | .key k a _, σ, σ' => σ'.dS k a = σ.dS k a
  | _, _, _ => True
def ownP (P : Addr → Obj → Prop) (own : List Addr) (h : Heap) : Addr → Obj → Prop := fun b o => P b o ∨ (b ∈ own ∧ h.get? b = some o)
section
variable {X : GC} {κ κ' : Km} {P : Addr → Obj → Prop} {env : Env} {names : List Str} {ls ls' : Ls} {σ σ' : H} {s s' : Shared} {n : Nat} {sc : Scope} {A : Around} {pos : Pos}
theorem next_ok {ik : IK} {it : Value} {tg : Expr} (rm : Rm n A) (S : St X κ P env names ls σ s) (I : ItSt X κ P env σ s it ik) (ht : tgOk ik tg = true) : Drawn X A tg it (NextP X κ P env names ls σ s it ik) s := by
  cases ik with
  | lst k a i => exact next_lst rm S I ht
  | rng x m => exact next_rng rm S I ht
  | enm k a i => exact next_enm rm S I ht
  | zip k a k' a' i => exact next_zip rm S I ht
  | key k a i => exact next_key rm S I ht
  | tup l i => exact next_tup rm S I ht
theorem St.guard (S : St X κ P env names ls σ s) {own : List Addr} (hO : ∀ b ∈ own, Own X κ P env b) : St X κ (ownP P own s.heap) env names ls σ s :=
  ⟨{ S.w with
      prot := fun a o h => h.elim (S.w.prot a o) fun ⟨_, e⟩ => e
      apP := fun a k o e h => h.elim (S.w.apP a k o e) fun ⟨ha, _⟩ => by have := (hO a ha).k; rw [e] at this; cases this },
    S.f.keep (fun _ _ e => e) (.refl _) (fun b hb => (S.f.free b hb).k) (fun b hb x h => h.elim ((S.f.free b hb).p x) fun ⟨ho, _⟩ => (hO b ho).f hb) (fun _ _ _ e => e)⟩
theorem St.unguard {own : List Addr} {h : Heap} (S : St X κ (ownP P own h) env names ls σ s) : St X κ P env names ls σ s :=
  ⟨S.w.weaken fun b x h => .inl h, S.f.keep (fun _ _ e => e) (.refl _) (fun b hb => (S.f.free b hb).k) (fun b hb x h => (S.f.free b hb).p x (.inl h)) (fun _ _ _ e => e)⟩
theorem itObj_own {h : Heap} {ik : IK} {it : Value} {own : List Addr} (I : ItObj κ h σ ik it own) : ∀ b ∈ own, ∃ o, h.get? b = some o := by
  intro b hb
  cases ik with
  | lst k a i => obtain ⟨I, _, rfl, ⟨o, ho, _⟩, _⟩ := I; rw [List.mem_singleton] at hb; subst hb; exact ⟨o, ho⟩
  | rng x m => obtain ⟨I, _, rfl, ho⟩ := I; rw [List.mem_singleton] at hb; subst hb; exact ⟨_, ho⟩
  | enm k a i =>
    obtain ⟨e, I, old, _, rfl, ho, ⟨o, ho', _⟩, _⟩ := I
    simp only [List.mem_cons, List.not_mem_nil, or_false] at hb
    rcases hb with rfl | rfl
    · exact ⟨_, ho⟩
    · exact ⟨_, ho'⟩
  | zip k a k' a' i =>
    obtain ⟨z, TI, TO, i1, i2, x, y, _, rfl, hz, hTI, hTO, ⟨o1, h1, _⟩, ⟨o2, h2, _⟩, _⟩ := I
    simp only [List.mem_cons, List.not_mem_nil, or_false] at hb
    rcases hb with rfl | rfl | rfl | rfl | rfl
    · exact ⟨_, hz⟩
    · exact ⟨_, hTI⟩
    · exact ⟨_, hTO⟩
    · exact ⟨_, h1⟩
    · exact ⟨_, h2⟩
  | key k a i => obtain ⟨I, _, rfl, ⟨o, ho, _⟩, _⟩ := I; rw [List.mem_singleton] at hb; subst hb; exact ⟨o, ho⟩
  | tup l i => obtain ⟨I, t, us, _, rfl, ⟨o, ho, _⟩, _⟩ := I; rw [List.mem_singleton] at hb; subst hb; exact ⟨o, ho⟩
theorem itObj_keep {h h' : Heap} {ik : IK} {it : Value} {own : List Addr} (I : ItObj κ h σ ik it own) (hk : ∀ a k, κ a = some k → κ' a = some k) (ht : KeepT κ h h') (ho : ∀ b ∈ own, ∀ o, h.get? b = some o → h'.get? b = some o) (hs : ik.same σ σ') : ItObj κ' h' σ' ik it own := by
  cases ik with
  | lst k a i => obtain ⟨I, e, rfl, ⟨o, h1, r⟩, hκ⟩ := I; exact ⟨I, e, rfl, ⟨o, ho I (.head _) _ h1, r⟩, hk _ _ hκ⟩
  | rng x m => obtain ⟨I, e, rfl, h1⟩ := I; exact ⟨I, e, rfl, ho I (.head _) _ h1⟩
  | enm k a i =>
    obtain ⟨e, I, old, e1, rfl, h1, ⟨o, h2, r⟩, ne, hκ⟩ := I
    exact ⟨e, I, old, e1, rfl, ho e (.head _) _ h1, ⟨o, ho I (.tail _ (.head _)) _ h2, r⟩, ne, hk _ _ hκ⟩
  | zip k a k' a' i =>
    obtain ⟨z, TI, TO, i1, i2, x, y, e1, rfl, hz, hTI, hTO, ⟨o1, h1, r1⟩, ⟨o2, h2, r2⟩, d, hκ, hκ'⟩ := I
    exact ⟨z, TI, TO, i1, i2, x, y, e1, rfl, ho z (by simp) _ hz, ho TI (by simp) _ hTI, ho TO (by simp) _ hTO, ⟨o1, ho i1 (by simp) _ h1, r1⟩, ⟨o2, ho i2 (by simp) _ h2, r2⟩, d, hk _ _ hκ, hk _ _ hκ'⟩
  | key k a i =>
    obtain ⟨I, e, rfl, ⟨o, h1, r⟩, hκ⟩ := I
    have hs : σ'.dS k a = σ.dS k a := hs
    exact ⟨I, e, rfl, by rw [hs]; exact ⟨o, ho I (.head _) _ h1, r⟩, hk _ _ hκ⟩
  | tup l i =>
    obtain ⟨I, t, us, e, rfl, ⟨o, h1, r⟩, T, rs⟩ := I
    exact ⟨I, t, us, e, rfl, ⟨o, ho I (.head _) _ h1, r⟩, T.mono hk ht, rs.mono hk ht⟩
theorem ItSt.through {ik : IK} {it : Value} {own : List Addr} (hO : ∀ b ∈ own, Own X κ P env b) (I : ItObj κ s.heap σ ik it own) (g : Go κ κ' s s') (S' : St X κ' (ownP P own s.heap) env names ls' σ' s') (hs : ik.same σ σ') : ItSt X κ' P env σ' s' it ik := by
  refine ⟨own, fun b hb => ?_, itObj_keep I g.k g.t (fun b hb o e => S'.w.prot b o (.inr ⟨hb, e⟩)) hs⟩
  obtain ⟨o, ho⟩ := itObj_own I b hb
  have ob := hO b hb
  refine ⟨?_, ob.z, ob.p, ob.f⟩
  cases e : κ' b with
  | none => rfl
  | some k => exact absurd (.inr ⟨hb, ho⟩) (S'.w.apP b k o e)
end
abbrev I1 := Ls → H → (IK → H → Prop) → Prop
inductive PostI (X : GC) (P : Addr → Obj → Prop) (env : Env) (names : List Str) (ls : Ls) (κ : Km) (s : Shared) (tg : Expr) (Q : IK → H → Prop) (it : Value) (s' : Shared) : Prop where
  | mk (κ' : Km) (σ' : H) (ik : IK) (g : Go κ κ' s s') (S : St X κ' P env names ls σ' s') (I : ItSt X κ' P env σ' s' it ik) (ht : tgOk ik tg = true) (q : Q ik σ')
def SoundI (X : GC) (n : Nat) (sc : Scope) (names : List Str) (tg : Expr) (e : Expr) (t : I1) : Prop :=
  ∀ env A κ P ls σ s Q, EnvOk env sc → Rm n A → St X κ P env names ls σ s → t ls σ Q →
    wpAny X.M A (eval e env) (fun x s₁ => wpAny X.M A (pyIter x) (PostI X P env names ls κ s tg Q) no s₁) no s
def forL (tg : A1) (body : S1) : List V → IK → Ls → H → (Fl → Ls → H → Prop) → Prop
  | [], _, ls, σ, Q => Q .next ls σ
  | v :: r, ik, ls, σ, Q => tg v ls σ fun ls₁ σ₁ => body ls₁ σ₁ fun f ls₂ σ₂ => match f with
    | .next => (ik.adv.items σ₂ = r ∧ ik.same σ σ₂) ∧ forL tg body r ik.adv ls₂ σ₂ Q
    | .ret w => Q (.ret w) ls₂ σ₂
def sFor (t : I1) (tg : A1) (body : S1) (ls : Ls) (σ : H) (Q : Fl → Ls → H → Prop) : Prop := t ls σ fun ik σ => forL tg body (ik.items σ) ik ls σ Q
theorem adv_same {ik : IK} {σ σ' : H} (h : ik.same σ σ') : ik.adv.same σ σ' := by cases ik <;> exact h
theorem adv_tg {ik : IK} {tg : Expr} (h : tgOk ik tg = true) : tgOk ik.adv tg = true := by cases ik <;> exact h
section
variable {X : GC} {n : Nat} {sc : Scope} {names : List Str} {pos : Pos}
inductive ForI (X : GC) (P : Addr → Obj → Prop) (env : Env) (names : List Str) (κ : Km) (s : Shared) (it : Value) (tg : Expr) (a : A1) (b : S1) (Q : Fl → Ls → H → Prop) (m : Nat) (s' : Shared) : Prop where
  | mk (κ' : Km) (σ' : H) (ls' : Ls) (ik : IK) (r : List V) (hm : r.length = m) (hr : ik.items σ' = r) (g : Go κ κ' s s') (S : St X κ' P env names ls' σ' s') (I : ItSt X κ' P env σ' s' it ik) (ht : tgOk ik tg = true) (q : forL a b r ik ls' σ' Q)
theorem t_for {tg iter : Expr} {body : List Stmt} {t : I1} {a : A1} {b : S1} (hi : SoundI X n sc names tg iter t) (ha : SoundA X n sc names tg a) (hb : SoundB X n sc names body b) (hs : ∀ env x, foldedSetIterable iter env x = pure x := by exact fun _ _ => rfl) :
    SoundS X n sc names (.For tg iter body [] pos) (sFor t a b) := fun env A κ P ls σ s Q eo rm S q => by
  refine wpAny_For (wpAny_mono (hi env A κ P ls σ s _ eo rm S q) (fun x s₁ h => wpAny_mono h (fun it s₂ h => ?_) fun _ _ e => e) fun _ _ e => e) (hs env)
  obtain ⟨κ₁, σ₁, ik, g₁, S₁, I₁, ht, q⟩ := h
  refine codeAny_forLoop_any (ForI X P env names κ s it tg a b Q) (fun m s₃ h => ?_) _ ⟨κ₁, σ₁, ls, ik, _, rfl, rfl, g₁, S₁, I₁, ht, q⟩
  obtain ⟨κ₃, σ₃, ls₃, ik, r, hm, hr, g₃, S₃, I₃, ht, q⟩ := h
  refine wpAny_mono (next_ok rm S₃ I₃ ht) (fun x s₄ h => ?_) fun _ _ e => e.elim
  cases x with
  | none =>
    obtain ⟨e, kt, S₄⟩ := NextP.none h hr
    subst e
    exact wpAny_execs_nil ⟨κ₃, σ₃, ls₃, .next, g₃.kt kt, S₄, rfl, q⟩
  | some u =>
    refine wpAny_mono h (fun _ s₅ h => ?_) fun _ _ e => e.elim
    obtain ⟨v, r', κ₅, own, e, g₅, S₅, hO, I₅, rv⟩ := NextP.some h hr
    subst e
    refine wpAny_mono (ha env A κ₅ (ownP P own s₅.heap) ls₃ σ₃ s₅ _ v u eo rm (S₅.guard hO) rv q) (fun _ s₆ h => ?_) fun _ _ e => e.elim
    obtain ⟨κ₆, σ₆, ls₆, g₆, S₆, q⟩ := h
    refine wpAny_mono (hb env A κ₆ (ownP P own s₅.heap) ls₆ σ₆ s₆ _ eo rm S₆ q) (fun fl s₇ h => ?_) fun _ _ e => e.elim
    obtain ⟨κ₇, σ₇, ls₇, f, g₇, S₇, fr, q⟩ := h
    have G := g₃.trans ((g₅.trans g₆).trans g₇)
    cases f with
    | next =>
      cases (show fl = .next from fr)
      exact ⟨r'.length, hm ▸ Nat.lt_succ_self _, κ₇, σ₇, ls₇, ik.adv, r', rfl, q.1.1, G, S₇.unguard, ItSt.through hO I₅ (g₆.trans g₇) S₇ (adv_same q.1.2), adv_tg ht, q.2⟩
    | ret w =>
      obtain ⟨x, rfl, hx⟩ := fr
      exact ⟨κ₇, σ₇, ls₇, .ret w, G, S₇.unguard, ⟨x, rfl, hx⟩, q⟩
end
end
section
open PyProof.V PySem.Spec
def iLst (t : E1) (ls : Ls) (σ : H) (Q : IK → H → Prop) : Prop := t ls σ fun v σ => match v with | .ref (.lst k) a => Q (.lst k a 0) σ | _ => False
def iKey (t : E1) (ls : Ls) (σ : H) (Q : IK → H → Prop) : Prop := t ls σ fun v σ => match v with | .ref (.dS k) a => Q (.key k a 0) σ | _ => False
def iTup (t : E1) (ls : Ls) (σ : H) (Q : IK → H → Prop) : Prop := t ls σ fun v σ => ob (vitems v) fun l => Q (.tup l 0) σ
def iEnum (t : E1) (ls : Ls) (σ : H) (Q : IK → H → Prop) : Prop := t ls σ fun v σ => match v with | .ref (.lst k) a => Q (.enm k a 0) σ | _ => False
def iZip (t t' : E1) (ls : Ls) (σ : H) (Q : IK → H → Prop) : Prop := t ls σ fun v σ => t' ls σ fun v' σ => match v, v' with | .ref (.lst k) a, .ref (.lst k') a' => Q (.zip k a k' a' 0) σ | _, _ => False
def iRng1 (t : E1) (ls : Ls) (σ : H) (Q : IK → H → Prop) : Prop := t ls σ fun v σ => match v with | .int b => (0 ≤ b ∧ b < 1000) ∧ Q (.rng 0 b.toNat) σ | _ => False
def iRng2 (t t' : E1) (ls : Ls) (σ : H) (Q : IK → H → Prop) : Prop := t ls σ fun v σ => t' ls σ fun v' σ => match v, v' with | .int a, .int b => (0 ≤ a ∧ a < 1000 ∧ 0 ≤ b ∧ b < 1000) ∧ Q (.rng a (b - a).toNat) σ | _, _ => False
section
variable {X : GC} {κ : Km} {P : Addr → Obj → Prop} {env : Env} {names : List Str} {ls : Ls} {σ : H} {s s' : Shared} {n : Nat} {sc : Scope} {A : Around} {pos : Pos} {tg : Expr}
theorem i_lst {e : Expr} {t : E1} (h : SoundE X n sc names e t) (ht : (isNm tg || isTp tg) = true) : SoundI X n sc names tg e (iLst t) := fun env A κ P ls σ s Q eo rm S q => by
  refine h.run eo rm S q fun κ₁ σ₁ s₁ v u g₁ S₁ r q => ?_
  split at q
  · rename_i k a
    obtain ⟨rfl, hk⟩ := r
    obtain ⟨vs, m, ho, rs⟩ := S₁.w.cell _ _ hk
    refine wpAny_pyIter_list ⟨_, ho, rfl, m, rfl⟩ ⟨κ₁, σ₁, .lst k a 0, ⟨g₁.k, g₁.t.trans g₁.k (KeepT.of fun a o e => Heap.get?_push_of_some _ e)⟩, S₁.push _, ⟨[s₁.heap.objs.size], fun b hb => ?_, s₁.heap.objs.size, rfl, rfl, ⟨_, Heap.get?_push_size _ rfl, rfl, rfl⟩, hk⟩, ht, q⟩
    rw [List.mem_singleton] at hb; subst hb; exact S₁.ownNew (Nat.le_refl _)
  · exact q.elim
theorem i_key {e : Expr} {t : E1} (h : SoundE X n sc names e t) (ht : isNm tg = true) : SoundI X n sc names tg e (iKey t) := fun env A κ P ls σ s Q eo rm S q => by
  refine h.run eo rm S q fun κ₁ σ₁ s₁ v u g₁ S₁ r q => ?_
  split at q
  · rename_i k a
    obtain ⟨rfl, hk⟩ := r
    obtain ⟨kvs, D, rs⟩ := S₁.w.cell _ _ hk
    have hlen := rs.length
    refine wpAny_pyIter_dict (S₁.w.nsys hk) D (⟨κ₁, σ₁, .key k a 0, ⟨g₁.k, g₁.t.trans g₁.k (KeepT.of fun a o e => Heap.get?_push_of_some _ e)⟩, S₁.push _, ⟨[s₁.heap.objs.size], fun b hb => ?_, s₁.heap.objs.size, rfl, rfl, ?_, hk⟩, ht, q⟩)
    · rw [List.mem_singleton] at hb; subst hb; exact S₁.ownNew (Nat.le_refl _)
    · rw [hlen]; exact ⟨_, Heap.get?_push_size _ rfl, rfl, rfl⟩
  · exact q.elim
theorem i_tup {e : Expr} {t : E1} (h : SoundE X n sc names e t) (ht : isNm tg = true) : SoundI X n sc names tg e (iTup t) := fun env A κ P ls σ s Q eo rm S q => by
  refine h.run eo rm S q fun κ₁ σ₁ s₁ v u g₁ S₁ r q => ?_
  obtain ⟨l, e, q⟩ := ob_ex q
  obtain ⟨tt, us, rfl, T, rs⟩ : ∃ t us, u = .ref t ∧ TupAt κ₁ s₁.heap t us.toArray ∧ VRels κ₁ s₁.heap l us := by
    cases v with
    | p2 a b => cases e; obtain ⟨t, u1, u2, rfl, T, r1, r2⟩ := r; exact ⟨t, [u1, u2], rfl, T, r1, r2, trivial⟩
    | p3 a b c => cases e; obtain ⟨t, u1, u2, u3, rfl, T, r1, r2, r3⟩ := r; exact ⟨t, [u1, u2, u3], rfl, T, r1, r2, r3, trivial⟩
    | p4 a b c d => cases e; obtain ⟨t, u1, u2, u3, u4, rfl, T, r1, r2, r3, r4⟩ := r; exact ⟨t, [u1, u2, u3, u4], rfl, T, r1, r2, r3, r4, trivial⟩
    | _ => cases e
  have kt : KeepT κ₁ s₁.heap (s₁.heap.push { cls := .type "tuple_iterator", data := .fields #[.ref tt, .int 0 0] }) := KeepT.of fun a o e => Heap.get?_push_of_some _ e
  refine iter_tuple T.2 (⟨κ₁, σ₁, .tup l 0, ⟨g₁.k, g₁.t.trans g₁.k kt⟩, S₁.push _, ⟨[s₁.heap.objs.size], fun b hb => ?_, s₁.heap.objs.size, tt, us.toArray, rfl, rfl, ⟨_, Heap.get?_push_size _ rfl, rfl, rfl⟩, T.mono (fun _ _ z => z) kt, ?_⟩, ht, q⟩)
  · rw [List.mem_singleton] at hb; subst hb; exact S₁.ownNew (Nat.le_refl _)
  · simpa using rs.mono (fun _ _ z => z) kt
structure BiName (X : GC) (sc : Scope) (id : Str) (fv : Value) : Prop where
  hx : sc.names.lookup id = some .globalImplicit
  e1 : nsIn X.K mainGlobals id = some none
  e2 : bootBuiltins id = some fv
  hne : id ≠ ("__name__" : Str)
  hd : (id == ("__debug__" : Str)) = false
  hm : keeperOf fv = pure .machine
theorem bi_call1 {id : Str} {fp : Pos} {fv : Value} {e : Expr} {t : E1} {Q : V → H → Prop} {R : Value → Shared → Prop} (B : BiName X sc id fv) (h : SoundE X n sc names e t) (hn : notStar e = true) (eo : EnvOk env sc) (rm : Rm n A) (S : St X κ P env names ls σ s) (q : t ls σ Q)
    (k : ∀ κ' σ' s' v u, Go κ κ' s s' → St X κ' P env names ls σ' s' → VRel κ' s'.heap v u → Q v σ' → wpAny X.M A (call fv [u]) R no s') : wpAny X.M A (eval (.Call (.Name id fp) [e] [] pos) env) R no s := by
  have hk' : env.scope.kind = .function := by rw [eo.scope]; exact eo.kind
  have hx' : env.kindOf id = some .globalImplicit := by unfold Env.kindOf; rw [eo.scope]; exact B.hx
  refine wpAny_Call_NameR (Name_function_global hk' hx' (loadGlobal_builtin (env := env) (mg := X.mg) (mb := X.mb) (eo.g ▸ X.ng.keeps S.w.base) (mg_none_of X.KX X.ng B.e1) (eo.b ▸ X.nb.keeps S.w.base) ((X.mbI id B.hne).trans B.e2) ?_) B.hd)
  rw [trees1 hn]
  exact callWith_of (P := fun _ => True) rfl (fun h _ => ⟨.machine, .inr (.inl rfl), Looks.of_pure B.hm⟩) (Calls.evalArgs_plain (Calls.spliced_cons (h.run eo rm S q fun κ₁ σ₁ s₁ v u g₁ S₁ r q => Calls.spliced_nil ⟨trivial, k κ₁ σ₁ s₁ v u g₁ S₁ r q⟩)))
theorem bi_call2 {id : Str} {fp : Pos} {fv : Value} {e e' : Expr} {t t' : E1} {Q : V → V → H → Prop} {R : Value → Shared → Prop} (B : BiName X sc id fv) (h : SoundE X n sc names e t) (h' : SoundE X n sc names e' t') (hn : notStar e = true) (hn' : notStar e' = true) (eo : EnvOk env sc) (rm : Rm n A) (S : St X κ P env names ls σ s) (q : t ls σ fun v σ => t' ls σ fun v' σ => Q v v' σ)
    (k : ∀ κ' σ' s' v u v' u', Go κ κ' s s' → St X κ' P env names ls σ' s' → VRel κ' s'.heap v u → VRel κ' s'.heap v' u' → Q v v' σ' → wpAny X.M A (call fv [u, u']) R no s') : wpAny X.M A (eval (.Call (.Name id fp) [e, e'] [] pos) env) R no s := by
  have hk' : env.scope.kind = .function := by rw [eo.scope]; exact eo.kind
  have hx' : env.kindOf id = some .globalImplicit := by unfold Env.kindOf; rw [eo.scope]; exact B.hx
  refine wpAny_Call_NameR (Name_function_global hk' hx' (loadGlobal_builtin (env := env) (mg := X.mg) (mb := X.mb) (eo.g ▸ X.ng.keeps S.w.base) (mg_none_of X.KX X.ng B.e1) (eo.b ▸ X.nb.keeps S.w.base) ((X.mbI id B.hne).trans B.e2) ?_) B.hd)
  rw [trees2 hn hn']
  exact callWith_of (P := fun _ => True) rfl (fun h _ => ⟨.machine, .inr (.inl rfl), Looks.of_pure B.hm⟩) (Calls.evalArgs_plain (Calls.spliced_cons (h.run eo rm S q fun κ₁ σ₁ s₁ v u g₁ S₁ r q => Calls.spliced_cons (h'.run eo rm S₁ q fun κ₂ σ₂ s₂ v' u' g₂ S₂ r' q => Calls.spliced_nil ⟨trivial, k κ₂ σ₂ s₂ v u v' u' (g₁.trans g₂) S₂ (g₂.v r) r' q⟩))))
theorem i_enum {fp : Pos} {e : Expr} {t : E1} (B : BiName X sc "enumerate" (.type "enumerate")) (h : SoundE X n sc names e t) (hn : notStar e = true) (ht : isTp tg = true) : SoundI X n sc names tg (.Call (.Name "enumerate" fp) [e] [] pos) (iEnum t) := fun env A κ P ls σ s Q eo rm S q => by
  refine bi_call1 B h hn eo rm S q fun κ₁ σ₁ s₁ v u g₁ S₁ r q => ?_
  split at q
  · rename_i k a
    obtain ⟨rfl, hk⟩ := r
    obtain ⟨vs, m, ho, rs⟩ := S₁.w.cell _ _ hk
    refine call_enumerate_list ⟨_, ho, rfl, m, rfl⟩ fun h' hE hit hz hkp => ?_
    have S₂ : St X κ₁ P env names ls σ₁ { s₁ with heap := h' } := S₁.ext hkp (by rw [hz]; exact Nat.le_add_right _ _) rfl rfl
    refine wpAny_pyIter_enum (s := { s₁ with heap := h' }) hE ⟨κ₁, σ₁, .enm k a 0, ⟨g₁.k, g₁.t.trans g₁.k (KeepT.of hkp)⟩, S₂, ⟨[s₁.heap.objs.size + 1, s₁.heap.objs.size], fun b hb => ?_, s₁.heap.objs.size + 1, s₁.heap.objs.size, .none, rfl, rfl, hE, hit, Nat.ne_of_gt (Nat.lt_succ_self _), hk⟩, ht, q⟩
    simp only [List.mem_cons, List.not_mem_nil, or_false] at hb
    rcases hb with rfl | rfl
    · have := S₁.ownNew (I := s₁.heap.objs.size + 1) (Nat.le_succ _); exact ⟨this.k, this.z, this.p, this.f⟩
    · have := S₁.ownNew (I := s₁.heap.objs.size) (Nat.le_refl _); exact ⟨this.k, this.z, this.p, this.f⟩
  · exact q.elim
theorem i_zip {fp : Pos} {e e' : Expr} {t t' : E1} (B : BiName X sc "zip" (.type "zip")) (h : SoundE X n sc names e t) (h' : SoundE X n sc names e' t') (hn : notStar e = true) (hn' : notStar e' = true) (ht : isTp tg = true) : SoundI X n sc names tg (.Call (.Name "zip" fp) [e, e'] [] pos) (iZip t t') := fun env A κ P ls σ s Q eo rm S q => by
  refine bi_call2 B h h' hn hn' eo rm S q fun κ₁ σ₁ s₁ v u v' u' g₁ S₁ r r' q => ?_
  split at q
  · rename_i k a k' a'
    obtain ⟨rfl, hk⟩ := r; obtain ⟨rfl, hk'⟩ := r'
    obtain ⟨vs, m, ho, rs⟩ := S₁.w.cell _ _ hk
    obtain ⟨vs', m', ho', rs'⟩ := S₁.w.cell _ _ hk'
    refine call_zip_2 ⟨_, ho, rfl, m, rfl⟩ ⟨_, ho', rfl, m', rfl⟩ fun h' hZ hTI hTO h1 h2 hz hkp => ?_
    have S₂ : St X κ₁ P env names ls σ₁ { s₁ with heap := h' } := S₁.ext hkp (by rw [hz]; exact Nat.le_add_right _ _) rfl rfl
    have lt : ∀ {a b : Nat}, a ≠ b → s₁.heap.objs.size + a ≠ s₁.heap.objs.size + b := fun h e => h (Nat.add_left_cancel e)
    refine wpAny_pyIter_zip (s := { s₁ with heap := h' }) hZ ⟨κ₁, σ₁, .zip k a k' a' 0, ⟨g₁.k, g₁.t.trans g₁.k (KeepT.of hkp)⟩, S₂, ⟨[s₁.heap.objs.size + 4, s₁.heap.objs.size + 2, s₁.heap.objs.size + 3, s₁.heap.objs.size + 0, s₁.heap.objs.size + 1], fun b hb => ?_, s₁.heap.objs.size + 4, s₁.heap.objs.size + 2, s₁.heap.objs.size + 3, s₁.heap.objs.size + 0, s₁.heap.objs.size + 1, .none, .none, rfl, rfl, hZ, hTI, hTO, h1, h2,
      ⟨lt (by decide), lt (by decide), lt (by decide), lt (by decide), lt (by decide), lt (by decide), lt (by decide), lt (by decide), lt (by decide), lt (by decide)⟩, hk, hk'⟩, ht, q⟩
    have ob : ∀ c, Own X κ₁ P env (s₁.heap.objs.size + c) := fun c => S₁.ownNew (Nat.le_add_right _ _)
    simp only [List.mem_cons, List.not_mem_nil, or_false] at hb
    rcases hb with rfl | rfl | rfl | rfl | rfl <;> exact ob _
  · exact q.elim
theorem rng_iter {a b : Int} {r : Addr} {t u w : Tok} {R : Value → Shared → Prop} (h0 : 0 ≤ a ∧ a < 1000 ∧ 0 ≤ b ∧ b < 1000) (S : St X κ P env names ls σ s) (hr : IsRange s.heap r a b 1 t u w)
    (k : ∀ s', KeepT κ s.heap s'.heap → St X κ P env names ls σ s' → ItSt X κ P env σ s' (.ref s.heap.objs.size) (.rng a (b - a).toNat) → R (.ref s.heap.objs.size) s') : wpAny X.M A (pyIter (.ref r)) R no s := by
  have sm : Builtin.Range.small a b 1 = true := by
    unfold Builtin.Range.small Builtin.Range.rangeFitsLong
    rw [rangeSize_one]
    simp only [Bool.and_eq_true, decide_eq_true_eq, show (1 : Int) > 0 by decide, if_true, Bool.or_eq_true]
    split <;> (refine ⟨⟨⟨⟨⟨?_, ?_⟩, ?_, ?_⟩, ?_, ?_⟩, ?_, ?_⟩, .inr ⟨?_, ?_⟩⟩ <;> omega)
  have es : Builtin.Range.rangeSize a b 1 = ((b - a).toNat : Int) := by rw [rangeSize_one]; split <;> omega
  refine wpAny_pyIter_range hr sm ?_
  rw [es]
  refine k _ (KeepT.of fun a o e => Heap.get?_push_of_some _ e) (S.push _) ⟨[s.heap.objs.size], fun b hb => ?_, s.heap.objs.size, rfl, rfl, Heap.get?_push_size _ rfl⟩
  rw [List.mem_singleton] at hb; subst hb; exact S.ownNew (Nat.le_refl _)
theorem i_rng1 {fp : Pos} {e : Expr} {t : E1} (B : BiName X sc "range" (.type "range")) (h : SoundE X n sc names e t) (hn : notStar e = true) (ht : isNm tg = true) : SoundI X n sc names tg (.Call (.Name "range" fp) [e] [] pos) (iRng1 t) := fun env A κ P ls σ s Q eo rm S q => by
  refine bi_call1 B h hn eo rm S q fun κ₁ σ₁ s₁ v u g₁ S₁ r q => ?_
  split at q
  · rename_i N
    obtain ⟨w, rfl⟩ := r
    obtain ⟨⟨h0, h1⟩, q⟩ := q
    refine call_range_1 ?_
    have kt : KeepT κ₁ s₁.heap (s₁.heap.push { cls := .type "range", data := .fields #[.int 0 s₁.toks, .int N w, .int 1 (s₁.toks + 1)] }) := KeepT.of fun a o e => Heap.get?_push_of_some _ e
    refine rng_iter ⟨Int.le_refl 0, by decide, h0, h1⟩ ((S₁.push { cls := .type "range", data := .fields #[.int 0 s₁.toks, .int N w, .int 1 (s₁.toks + 1)] }).toks _) (IsRange.new ..) fun s' kt' S' I' => ⟨κ₁, σ₁, _, ⟨g₁.k, (g₁.t.trans g₁.k kt).trans g₁.k kt'⟩, S', I', ht, ?_⟩
    rw [Int.sub_zero]; exact q
  · exact q.elim
theorem i_rng2 {fp : Pos} {e e' : Expr} {t t' : E1} (B : BiName X sc "range" (.type "range")) (h : SoundE X n sc names e t) (h' : SoundE X n sc names e' t') (hn : notStar e = true) (hn' : notStar e' = true) (ht : isNm tg = true) : SoundI X n sc names tg (.Call (.Name "range" fp) [e, e'] [] pos) (iRng2 t t') := fun env A κ P ls σ s Q eo rm S q => by
  refine bi_call2 B h h' hn hn' eo rm S q fun κ₁ σ₁ s₁ v u v' u' g₁ S₁ r r' q => ?_
  split at q
  · rename_i M N
    obtain ⟨w, rfl⟩ := r; obtain ⟨w', rfl⟩ := r'
    obtain ⟨h0, q⟩ := q
    refine call_range_2 ?_
    have kt : KeepT κ₁ s₁.heap (s₁.heap.push { cls := .type "range", data := .fields #[.int M w, .int N w', .int 1 s₁.toks] }) := KeepT.of fun a o e => Heap.get?_push_of_some _ e
    exact rng_iter h0 ((S₁.push { cls := .type "range", data := .fields #[.int M w, .int N w', .int 1 s₁.toks] }).toks _) (IsRange.new ..) fun s' kt' S' I' => ⟨κ₁, σ₁, _, ⟨g₁.k, (g₁.t.trans g₁.k kt).trans g₁.k kt'⟩, S', I', ht, q⟩
  · exact q.elim
noncomputable def whileN (c : T1) (b : S1) : Nat → S1
  | 0, _, _, _ => False
  | m + 1, ls, σ, Q => c ls σ fun x σ => bsplit x (b ls σ fun f ls σ => match f with | .next => whileN c b m ls σ Q | .ret v => Q (.ret v) ls σ) (Q .next ls σ)
def sWhile (c : T1) (b : S1) (ls : Ls) (σ : H) (Q : Fl → Ls → H → Prop) : Prop := ∃ m, whileN c b m ls σ Q
theorem t_while {e : Expr} {body : List Stmt} {c : T1} {b : S1} (hc : SoundT X n sc names e c) (hb : SoundB X n sc names body b) : SoundS X n sc names (.While e body [] pos) (sWhile c b) := fun env A κ P ls σ s Q eo rm S ⟨m, q⟩ => by
  refine wpAny_While (codeAny_whileLoop (fun m s' => ∃ κ' σ' ls', Go κ κ' s s' ∧ St X κ' P env names ls' σ' s' ∧ whileN c b m ls' σ' Q) ?_ m ⟨κ, σ, ls, .refl _ _, S, q⟩)
  rintro m s₁ ⟨κ₁, σ₁, ls₁, g₁, S₁, q⟩
  cases m with
  | zero => exact q.elim
  | succ m =>
    refine wpAny_mono (hc env A κ₁ P ls₁ σ₁ s₁ _ eo rm S₁ q) (fun x s₂ ⟨κ₂, σ₂, g₂, S₂, q⟩ => ?_) fun _ _ e => e.elim
    cases x with
    | false => exact wpAny_execs_nil ⟨κ₂, σ₂, ls₁, .next, g₁.trans g₂, S₂, rfl, q.2 rfl⟩
    | true =>
      rw [if_pos rfl]
      refine wpAny_mono (hb env A κ₂ P ls₁ σ₂ s₂ _ eo rm S₂ (q.1 rfl)) (fun fl s₃ ⟨κ₃, σ₃, ls₃, f, g₃, S₃, fr, q⟩ => ?_) fun _ _ e => e.elim
      cases f with
      | next => obtain rfl : fl = .next := fr; exact ⟨m, Nat.lt_succ_self _, κ₃, σ₃, ls₃, (g₁.trans g₂).trans g₃, S₃, q⟩
      | ret v => obtain ⟨u, rfl, hu⟩ := fr; exact ⟨κ₃, σ₃, ls₃, .ret v, (g₁.trans g₂).trans g₃, S₃, ⟨u, rfl, hu⟩, q⟩
end
end
section
open PyProof.V PySem.Spec
def grdP (P : Addr → Obj → Prop) (G : Addr → Prop) (h : Heap) : Addr → Obj → Prop := fun b o => P b o ∨ (G b ∧ h.get? b = some o)
def innG (env : Env) (cl : List (Str × Addr)) (D : Addr) : Addr → Prop := fun b => (isFA env b ∧ ∀ x, (x, b) ∉ cl) ∨ b = D
noncomputable def relS (scope sc : Scope) : Scope := { scope with names := scope.names.map fun (n, k) => if (k == .free && sc.kind == .function && sc.names.lookup n == some .cell) then (n, .cell) else (n, k) }
theorem relabel_eq {scope : Scope} {env : Env} {sc : Scope} (h : env.scope = sc) : relabel scope env = relS scope sc := by subst h; rfl
section
variable {X : GC} {κ κ' : Km} {P : Addr → Obj → Prop} {env : Env} {names : List Str} {ls ls' : Ls} {σ σ' : H} {s s' : Shared} {n : Nat} {sc : Scope} {A : Around} {pos : Pos}
theorem St.grd (S : St X κ P env names ls σ s) {G : Addr → Prop} (hG : ∀ b, G b → κ b = none ∧ ¬ isFA env b) : St X κ (grdP P G s.heap) env names ls σ s :=
  ⟨{ S.w with
      prot := fun a o h => h.elim (S.w.prot a o) fun ⟨_, e⟩ => e
      apP := fun a k o e h => h.elim (S.w.apP a k o e) fun ⟨ha, _⟩ => by have := (hG a ha).1; rw [e] at this; cases this },
    S.f.keep (fun _ _ e => e) (.refl _) (fun b hb => (S.f.free b hb).k) (fun b hb x h => h.elim ((S.f.free b hb).p x) fun ⟨ho, _⟩ => (hG b ho).2 hb) (fun _ _ _ e => e)⟩
theorem St.ungrd {G : Addr → Prop} {h : Heap} (S : St X κ (grdP P G h) env names ls σ s) : St X κ P env names ls σ s :=
  ⟨S.w.weaken fun b x h => .inl h, S.f.keep (fun _ _ e => e) (.refl _) (fun b hb => (S.f.free b hb).k) (fun b hb x h => (S.f.free b hb).p x (.inl h)) (fun _ _ _ e => e)⟩
theorem St.grdAt {G : Addr → Prop} {h : Heap} (S : St X κ (grdP P G h) env names ls σ s) {b : Addr} {o : Obj} (hb : G b) (ho : h.get? b = some o) : κ b = none ∧ s.heap.get? b = some o ∧ ¬ isFA env b :=
  ⟨by cases e : κ b with
    | none => rfl
    | some k => exact absurd (.inr ⟨hb, ho⟩) (S.w.apP b k o e), S.w.prot b o (.inr ⟨hb, ho⟩), fun z => (S.f.free b z).p o (.inr ⟨hb, ho⟩)⟩
structure Inn (X : GC) (P : Addr → Obj → Prop) (env : Env) (cl : List (Str × Addr)) (D C : Addr) (h₀ : Heap) : Prop where
  zD : X.hB.objs.size ≤ D
  pD : ∀ o, ¬ P D o
  fD : ¬ isFA env D
  zC : X.hB.objs.size ≤ C
  pC : ∀ o, ¬ P C o
  fC : ¬ isFA env C
  dc : D ≠ C
  cl : ∀ p ∈ cl, env.cells.lookup p.1 = some p.2
  ex : ∀ b, isFA env b → ∃ o, h₀.get? b = some o
theorem Inn.fa {cl : List (Str × Addr)} {D C : Addr} {h₀ : Heap} (I : Inn X P env cl D C h₀) {b : Addr} {scope : Scope} (h : isFA (compEnvC scope cl C env) b) : b = C ∨ isFA env b ∧ ∃ x, (x, b) ∈ cl := by
  rcases h with h | ⟨x, h⟩
  · exact .inl h
  · exact .inr ⟨.inr ⟨x, mem_of_look (I.cl _ h)⟩, x, h⟩
theorem Inn.g {cl : List (Str × Addr)} {D C : Addr} {h₀ : Heap} (I : Inn X P env cl D C h₀) {b : Addr} {scope : Scope} (h : innG env cl D b) : ¬ isFA (compEnvC scope cl C env) b := fun z => by
  rcases I.fa z with rfl | ⟨z1, x, z2⟩
  · rcases h with ⟨h, _⟩ | h
    · exact I.fC h
    · exact I.dc h.symm
  · rcases h with ⟨_, h⟩ | rfl
    · exact h x z2
    · exact I.fD z1
structure Mid (X : GC) (κ : Km) (P : Addr → Obj → Prop) (env env' : Env) (names' : List Str) (cl : List (Str × Addr)) (D : Addr) (h₀ : Heap) (ls' : Ls) (σ : H) (s : Shared) (acc : List V) : Prop where
  S : St X κ (grdP P (innG env cl D) s.heap) env' names' ls' σ s
  keep : ∀ b, isFA env b → (∀ x, (x, b) ∉ cl) → ∀ o, h₀.get? b = some o → s.heap.get? b = some o
  acc : ∃ us m, s.heap.get? D = some { cls := .type "list", data := .seq us m } ∧ VRels κ s.heap acc us.toList
theorem Mid.exG {names' : List Str} {cl : List (Str × Addr)} {D C : Addr} {h₀ : Heap} {env' : Env} {acc : List V} (M : Mid X κ P env env' names' cl D h₀ ls' σ s acc) (I : Inn X P env cl D C h₀) {b : Addr} (h : innG env cl D b) : ∃ o, s.heap.get? b = some o := by
  rcases h with ⟨h1, h2⟩ | rfl
  · obtain ⟨o, ho⟩ := I.ex b h1
    exact ⟨o, M.keep b h1 h2 o ho⟩
  · obtain ⟨us, m, h, _⟩ := M.acc
    exact ⟨_, h⟩
theorem Mid.turn {names' : List Str} {cl : List (Str × Addr)} {D C : Addr} {h₀ : Heap} {acc acc' : List V} {own : List Addr} {s₅ s₉ : Shared} {κ₅ : Km} {σ₅ : H} {it : Value} {ik : IK} {env' : Env}
    (M : Mid X κ P env env' names' cl D h₀ ls σ s acc) (I : Inn X P env cl D C h₀)
    (hO : ∀ b ∈ own, Own X κ₅ (grdP P (innG env cl D) s.heap) env' b) (hI : ItObj κ₅ s₅.heap σ₅ ik it own) (g : Go κ₅ κ' s₅ s')
    (S' : St X κ' (ownP (grdP P (innG env cl D) s.heap) own s₅.heap) env' names' ls' σ' s') (hs : ik.same σ₅ σ')
    (h9 : ∀ b o, b ≠ D → s'.heap.get? b = some o → s₉.heap.get? b = some o) (hz : s'.heap.objs.size ≤ s₉.heap.objs.size) (hg : s₉.gens = s'.gens) (ho : s₉.os = s'.os)
    (hacc : KeepT κ' s'.heap s₉.heap → (∃ us m, s'.heap.get? D = some { cls := .type "list", data := .seq us m }) → ∃ us m, s₉.heap.get? D = some { cls := .type "list", data := .seq us m } ∧ VRels κ' s₉.heap acc' us.toList) :
    Go κ₅ κ' s₅ s₉ ∧ Mid X κ' P env env' names' cl D h₀ ls' σ' s₉ acc' ∧ ItSt X κ' (grdP P (innG env cl D) s₉.heap) env' σ' s₉ it ik := by
  have S1 := S'.unguard
  have S2 := S1.ungrd
  have hG : ∀ b, innG env cl D b → κ' b = none ∧ ¬ isFA env' b := fun b hb => by
    obtain ⟨o, ho⟩ := M.exG I hb
    exact ⟨(S1.grdAt hb ho).1, (S1.grdAt hb ho).2.2⟩
  have hD := hG D (.inr rfl)
  obtain ⟨kt, S3⟩ := S2.moved (s' := s₉) (Z := fun b => b = D) (fun b e => e ▸ ⟨hD.1, I.zD, I.pD, hD.2⟩) (fun b o hb e => h9 b o hb e) hz hg ho
  have S4 := S3.grd hG
  have eD : ∃ us m, s'.heap.get? D = some { cls := .type "list", data := .seq us m } := by
    obtain ⟨us, m, h, _⟩ := M.acc
    exact ⟨us, m, (S1.grdAt (.inr rfl) h).2.1⟩
  refine ⟨g.kt kt, ⟨S4, fun b h1 h2 o ho => ?_, hacc kt eD⟩, own, fun b hb => ?_, ?_⟩
  · refine h9 b o (fun e => I.fD (e ▸ h1)) (S1.grdAt (.inl ⟨h1, h2⟩) (M.keep b h1 h2 o ho)).2.1
  · have ob := hO b hb
    obtain ⟨_, hO', _⟩ := ItSt.through hO hI g S' hs
    obtain ⟨o, ho⟩ := itObj_own hI b hb
    refine ⟨?_, ob.z, fun x h => ?_, ob.f⟩
    · cases e : κ' b with
      | none => rfl
      | some k => exact absurd (.inr ⟨hb, ho⟩) (S'.w.apP b k o e)
    · rcases h with h | ⟨h, _⟩
      · exact ob.p x (.inl h)
      · obtain ⟨y, hy⟩ := M.exG I h
        exact ob.p y (.inr ⟨h, hy⟩)
  · refine itObj_keep (κ := κ') (h := s'.heap) (σ := σ') (itObj_keep hI g.k g.t (fun b hb o e => S'.w.prot b o (.inr ⟨hb, e⟩)) hs) (fun _ _ e => e) kt (fun b hb o e => h9 b o (fun z => ?_) e) (by cases ik <;> first | trivial | rfl)
    have ob := hO b hb
    obtain ⟨us, m, h, _⟩ := M.acc
    exact ob.p _ (.inr ⟨.inr z, z ▸ h⟩)
end
def compL (nc : Nat) (tg : A1) (test : T1) (elt : E1) : List V → IK → Ls → List V → H → (List V → H → Prop) → Prop
  | [], _, _, acc, σ, Q => Q acc σ
  | v :: r, ik, ls, acc, σ, Q => tg v ls σ fun ls₁ σ₁ => ls₁.take nc = ls.take nc ∧ test ls₁ σ₁ fun b σ₂ =>
      bsplit b (elt ls₁ σ₂ fun w σ₃ => (acc.length ≤ 1000 ∧ ik.adv.items σ₃ = r ∧ ik.same σ σ₃) ∧ compL nc tg test elt r ik.adv ls₁ (acc ++ [w]) σ₃ Q)
        ((ik.adv.items σ₂ = r ∧ ik.same σ σ₂) ∧ compL nc tg test elt r ik.adv ls₁ acc σ₂ Q)
def pComp (k : Nat) (ci : List Nat) (m : Nat) (tg : A1) (test : T1) (elt : E1) (t : I1) (ls : Ls) (σ : H) (Q : V → H → Prop) : Prop := t ls σ fun ik σ₁ => (∀ i ∈ ci, ∃ v, ls[i]? = some (some v)) ∧ ∀ a, σ₁.nxt ≤ a →
  compL ci.length tg test elt (ik.items σ₁) ik (ci.map (fun i => (ls[i]?).join) ++ List.replicate m none) [] (σ₁.res a) fun acc σ₂ => a < σ₂.nxt ∧ Q (.ref (.lst k) a) (σ₂.setL k a acc)
def tTrue (_ : Ls) (σ : H) (Q : Bool → H → Prop) : Prop := Q true σ
noncomputable def ifsTree (ifs : List Expr) (env : Env) : Sem Bool := forIn ifs true fun c r => if r = true then do let ok ← isTrue c env (eval c env); pure (ForInStep.yield ok) else pure (ForInStep.yield r)
def SoundC (X : GC) (n : Nat) (sc : Scope) (names : List Str) (ifs : List Expr) (t : T1) : Prop :=
  ∀ env A κ P ls σ s Q, EnvOk env sc → Rm n A → St X κ P env names ls σ s → t ls σ Q → wpAny X.M A (ifsTree ifs env) (PostT X P env names ls κ s Q) no s
section
variable {X : GC} {n : Nat} {sc : Scope} {names : List Str} {pos : Pos}
theorem c_nil : SoundC X n sc names [] tTrue := fun env A κ P ls σ s Q eo rm S q => wpAny_tests_nil ⟨κ, σ, .refl _ _, S, q⟩
theorem c_one {c : Expr} {t : T1} (h : SoundT X n sc names c t) : SoundC X n sc names [c] t := fun env A κ P ls σ s Q eo rm S q => wpAny_tests_one (h env A κ P ls σ s Q eo rm S q)
theorem codeAny_compLoop_all {X : GC} {A : Around} {R : Result → Shared → Prop} {s : Shared} {elt target iter : Expr} {ifs : List Expr} {scope : Scope} {pos : Pos} {it acc : Value} {env : Env} (I : Nat → Shared → Prop)
    (turn : ∀ n s, I n s → wpAny X.M A (pyNext it) (fun r s₁ => match r with
      | none => R (.ok .next) s₁
      | some v => wpAny X.M A (letOwnedTupleGo target it v) (fun _ s₁ => wpAny X.M A (assign target env v) (fun _ s₂ =>
          wpAny X.M A (ifsTree ifs env) (fun ok s₃ =>
            if ok = true then wpAny X.M A (eval elt env) (fun x s₄ =>
              wpAny X.M A (call (.builtin "list.append") [acc, x]) (fun _ s₅ => ∃ m, m < n ∧ I m s₅) no s₄) no s₃
            else ∃ m, m < n ∧ I m s₃) no s₂) no s₁) no s₁) no s)
    (n : Nat) (h : I n s) :
    codeAny X.M A (.compLoop (.ListComp elt [⟨target, iter, ifs, 0⟩] scope pos) 0 it acc env) R s := by
  refine codeAny_loop rfl I (fun n s hI => ?_) n h
  show wpAny _ A ((compTurn (.ListComp elt [⟨target, iter, ifs, 0⟩] scope pos) 0 it acc env).onRaise (fun x => do noteFrame x env; theTreesLotGoes x)) _ _ s
  refine wpAny_noted ?_
  rw [compTurn_list]
  refine wpAny_bind (wpAny_standAt (wpAny_bind (wpAny_mono (turn n s hI) (fun r s₁ h₁ => ?_) fun _ _ h' => h'.elim)))
  cases r with
  | none => exact wpAny_pure h₁
  | some v =>
    refine wpAny_bind (wpAny_mono h₁ (fun _ s₁' h₁ => wpAny_bind (wpAny_mono h₁ (fun _ s₂ h₂ => wpAny_bind (wpAny_mono h₂ (fun ok s₃ h₃ => ?_) fun _ _ h' => h'.elim)) fun _ _ h' => h'.elim)) fun _ _ h' => h'.elim)
    cases ok with
    | false => exact wpAny_pure ⟨rfl, h₃⟩
    | true =>
      exact wpAny_bind (wpAny_bind (wpAny_mono h₃ (fun x s₄ h₄ => wpAny_bind (wpAny_mono h₄ (fun _ s₅ h₅ => wpAny_pure (wpAny_pure ⟨rfl, h₅⟩)) fun _ _ h' => h'.elim)) fun _ _ h' => h'.elim))
end
end
section
open PyProof.V PySem.Spec
def NsO (o : Obj) (m : Str → Option Value) : Prop := ∃ es ep, o.data = .dict es ep ∧ StrKeys es ∧ ∀ name, nsFind es name = m name
theorem NsO.ns {h : Heap} {C : Addr} {o : Obj} {m : Str → Option Value} (x : NsO o m) (e : h.get? C = some o) : h.Ns C m := let ⟨es, ep, hd, r⟩ := x; ⟨o, es, ep, e, hd, r⟩
theorem nsO_of {h : Heap} {C : Addr} {m : Str → Option Value} (x : h.Ns C m) : ∃ o, h.get? C = some o ∧ NsO o m := let ⟨o, es, ep, e, hd, r⟩ := x; ⟨o, e, es, ep, hd, r⟩
theorem compEnv_ok {scope sc : Scope} {cl : List (Str × Addr)} {C : Addr} {env : Env} (eo : EnvOk env sc) (hk : scope.kind = .function) : EnvOk (compEnvC scope cl C env) (relS scope sc) :=
  ⟨relabel_eq eo.scope, hk, eo.g, eo.b⟩
theorem look_mem {cl : List (Str × Addr)} {x : Str} {c : Addr} (h : cl.lookup x = some c) : (x, c) ∈ cl := mem_of_look h
theorem look_some {cl : List (Str × Addr)} {x : Str} (h : x ∈ cl.map (·.1)) : ∃ c, cl.lookup x = some c := look_some_of_mem h
structure Caps (sc scope : Scope) (names names' : List Str) (ci : List Nat) (caps locs : List Str) : Prop where
  nms : names' = caps ++ locs
  len : caps.length = ci.length
  at' : ∀ (j i : Nat) (x : Str), ci[j]? = some i → caps[j]? = some x → names[i]? = some x
  nd : (caps ++ locs).Nodup
  cell : ∀ x ∈ caps, sc.names.lookup x = some .cell ∧ (relS scope sc).names.lookup x = some .cell
  only : ∀ x, (relS scope sc).names.lookup x = some .cell → x ∈ caps
section
variable {X : GC} {κ κ' : Km} {P : Addr → Obj → Prop} {env : Env} {names names' : List Str} {ls ls' : Ls} {σ σ' : H} {s s' : Shared} {n : Nat} {sc : Scope} {A : Around} {pos : Pos}
noncomputable def cvals (ci : List Nat) (ls : Ls) : Ls := ci.map fun i => (ls[i]?).join
theorem cvals_at {ci : List Nat} {ls : Ls} {j : Nat} {v : V} (h : (cvals ci ls)[j]? = some (some v)) : ∃ i, ci[j]? = some i ∧ ls[i]? = some (some v) := by
  unfold cvals at h
  rw [List.getElem?_map] at h
  cases e : ci[j]? with
  | none => rw [e] at h; simp at h
  | some i =>
    rw [e] at h
    refine ⟨i, rfl, ?_⟩
    cases e' : ls[i]? with
    | none => simp [e'] at h
    | some w => simpa [e'] using h
theorem St.inner {cl : List (Str × Addr)} {D C : Addr} {h₀ : Heap} {scope : Scope} {ci : List Nat} {caps locs : List Str} {m : Nat} {o : Obj} (eo : EnvOk env sc) (hc : Caps sc scope names names' ci caps locs) (hm : locs.length = m)
    (S : St X κ (plusP P D o) env names ls σ s) (I : Inn X P env cl D C h₀) (hcl : cl.map (·.1) = caps.reverse ∨ cl.map (·.1) = caps) (hC : κ C = none) (hN : s.heap.Ns C (fun _ => none)) (hci : ∀ i ∈ ci, ∃ v, ls[i]? = some (some v)) (hD : κ D = none) :
    St X κ (grdP P (innG env cl D) s.heap) (compEnvC scope cl C env) names' (cvals ci ls ++ List.replicate m none) σ s := by
  have S1 : St X κ P env names ls σ s := (S.unkeep I.pD).1
  have hmem : ∀ x, x ∈ caps → x ∈ cl.map (·.1) := fun x h => by
    rcases hcl with e | e <;> rw [e] <;> simpa using h
  have hmem' : ∀ x c, (x, c) ∈ cl → x ∈ caps := fun x c h => by
    have : x ∈ cl.map (·.1) := List.mem_map_of_mem h
    rcases hcl with e | e <;> rw [e] at this <;> simpa using this
  have S2 : St X κ P (compEnvC scope cl C env) names' (cvals ci ls ++ List.replicate m none) σ s := by
    refine ⟨S1.w, ⟨fun a ha => ?_, ?_, ⟨_, hN, fun i x v h1 h2 => ?_⟩, fun x hx => ?_, hc.nms ▸ hc.nd, fun x y c h1 h2 => ?_⟩⟩
    · rcases I.fa ha with rfl | ⟨h1, x, h2⟩
      · exact ⟨hC, get_none_of_size I.zC, I.pC, ns_notSeq hN⟩
      · exact S1.f.free a h1
    · rw [List.length_append, List.length_replicate, hc.nms, List.length_append, hm, hc.len]; simp [cvals]
    · have hi : i < ci.length := by
        rcases Nat.lt_or_ge i ci.length with z | z
        · exact z
        · rw [List.getElem?_append_right (by simpa [cvals] using z), List.getElem?_replicate] at h2
          split at h2 <;> simp at h2
      rw [List.getElem?_append_left (by simpa [cvals] using hi)] at h2
      obtain ⟨j, hj, hv⟩ := cvals_at h2
      rw [hc.nms, List.getElem?_append_left (by rw [hc.len]; exact hi)] at h1
      have hx := hc.at' i j x hj h1
      have hxc := hc.cell x (List.mem_of_getElem? h1)
      obtain ⟨m', hm', hl⟩ := S1.f.loc
      obtain ⟨u, hu, q⟩ := hl j x v hx hv
      have ko : env.kindOf x = some .cell := by unfold Env.kindOf; rw [eo.scope]; exact hxc.1
      rcases q with ⟨q, _⟩ | ⟨_, c, h3, h4⟩
      · rw [ko] at q; cases q
      · obtain ⟨c', hc'⟩ := look_some (hmem x (List.mem_of_getElem? h1))
        have := I.cl _ (look_mem hc')
        have this' : c' = c := Option.some.inj (this.symm.trans h3)
        subst this'
        refine ⟨u, hu, .inr ⟨.inl ?_, c', hc', h4⟩⟩
        show (relabel scope env).names.lookup x = _
        rw [relabel_eq eo.scope]; exact hxc.2
    · have hx' : (relS scope sc).names.lookup x = some .cell := by rw [← relabel_eq eo.scope]; exact hx
      have hxc := hc.only x hx'
      have ko : env.kindOf x = some .cell := by unfold Env.kindOf; rw [eo.scope]; exact (hc.cell x hxc).1
      obtain ⟨c, v, h1, h2⟩ := S1.f.cells x ko
      obtain ⟨c', hc'⟩ := look_some (hmem x hxc)
      have := I.cl _ (look_mem hc')
      have this' : c' = c := Option.some.inj (this.symm.trans h1)
      subst this'
      exact ⟨c', v, hc', h2⟩
    · exact S1.f.cap x y c (I.cl _ (look_mem h1)) (I.cl _ (look_mem h2))
  refine S2.grd fun b hb => ⟨?_, I.g hb⟩
  rcases hb with ⟨h, _⟩ | rfl
  · exact (S1.f.free b h).k
  · exact hD
theorem Mid.out {cl : List (Str × Addr)} {D C : Addr} {scope : Scope} {ci : List Nat} {caps locs : List Str} {k : Nat} {acc : List V} {s₀ : Shared} {κ₀ : Km} {σ₀ : H} (eo : EnvOk env sc) (hc : Caps sc scope names names' ci caps locs)
    (S₀ : St X κ₀ P env names ls σ₀ s₀) (I : Inn X P env cl D C s₀.heap) (hcl : cl.map (·.1) = caps.reverse ∨ cl.map (·.1) = caps) (hci : ∀ i ∈ ci, ∃ v, ls[i]? = some (some v)) (g : Go κ₀ κ s₀ s)
    (M : Mid X κ P env (compEnvC scope cl C env) names' cl D s₀.heap ls' σ s acc) (hls : ls'.take ci.length = cvals ci ls) (hD : D < σ.nxt) :
    ∃ κ' oC m, NsO oC m ∧ Go κ κ' s s ∧ St X κ' (plusP P C oC) env names ls (σ.setL k D acc) s ∧ κ' D = some (.lst k) ∧ s.heap.get? C = some oC := by
  have S1 := M.S.ungrd
  obtain ⟨m, hN, hl⟩ := S1.f.loc
  obtain ⟨oC, hoC, nC⟩ := nsO_of hN
  have FC := S1.f.free C (.inl rfl)
  have hmem : ∀ x, x ∈ caps → x ∈ cl.map (·.1) := fun x h => by
    rcases hcl with e | e <;> rw [e] <;> simpa using h
  have hmem' : ∀ x c, (x, c) ∈ cl → x ∈ caps := fun x c h => by
    have : x ∈ cl.map (·.1) := List.mem_map_of_mem h
    rcases hcl with e | e <;> rw [e] at this <;> simpa using this
  have faG : ∀ b, isFA env b → (∀ x, (x, b) ∉ cl) → κ b = none ∧ ∀ o, s₀.heap.get? b = some o → s.heap.get? b = some o := fun b h1 h2 => by
    obtain ⟨o, ho⟩ := M.exG I (.inl ⟨h1, h2⟩)
    exact ⟨(M.S.grdAt (.inl ⟨h1, h2⟩) ho).1, fun o ho => M.keep b h1 h2 o ho⟩
  have faC : ∀ b x, (x, b) ∈ cl → isFA (compEnvC scope cl C env) b := fun b x h => .inr ⟨x, h⟩
  have hcap : ∀ b, isFA env b → (∀ x, (x, b) ∉ cl) ∨ ∃ x, (x, b) ∈ cl := fun b _ => by
    by_cases h : ∃ x, (x, b) ∈ cl
    · exact .inr h
    · exact .inl fun x q => h ⟨x, q⟩
  have cellC : ∀ x c, (x, c) ∈ cl → env.kindOf x = some .cell ∧ ∃ v, s₀.heap.IsCell c v := fun x c h => by
    have ko : env.kindOf x = some .cell := by unfold Env.kindOf; rw [eo.scope]; exact (hc.cell x (hmem' x c h)).1
    obtain ⟨c', v, h1, h2⟩ := S₀.f.cells x ko
    have := I.cl _ h
    rw [h1] at this; cases this
    exact ⟨ko, v, h2⟩
  obtain ⟨m₀, hN₀, hl₀⟩ := S₀.f.loc
  have locNo : ∀ x, (x, env.locals) ∉ cl := fun x h => by
    obtain ⟨_, v, h2⟩ := cellC x _ h
    exact cell_ne_ns hN₀ h2 rfl
  have Sout : St X κ P env names ls σ s := by
    refine ⟨S1.w, ⟨fun a ha => ?_, S₀.f.len, ⟨m₀, hN₀.at fun o => (faG _ (.inl rfl) locNo).2 o, fun i x v h1 h2 => ?_⟩, fun x hx => ?_, S₀.f.nd, S₀.f.cap⟩⟩
    · have f := S₀.f.free a ha
      rcases hcap a ha with h | ⟨x, h⟩
      · obtain ⟨z1, z2⟩ := faG a ha h
        obtain ⟨o, ho, hn⟩ := f.o
        exact ⟨z1, f.b, f.p, o, z2 o ho, hn⟩
      · have f' := S1.f.free a (faC a x h)
        exact ⟨f'.k, f.b, f.p, f'.o⟩
    · obtain ⟨u, hu, q⟩ := hl₀ i x v h1 h2
      rcases q with ⟨q1, q2⟩ | ⟨q1, c, q2, q3⟩
      · exact ⟨u, g.v hu, .inl ⟨q1, q2⟩⟩
      · have ha : isFA env c := .inr ⟨x, mem_of_look q2⟩
        rcases hcap c ha with h | ⟨y, h⟩
        · obtain ⟨z1, z2⟩ := faG c ha h
          obtain ⟨o, ho, hd⟩ := q3
          exact ⟨u, g.v hu, .inr ⟨q1, c, q2, o, z2 o ho, hd⟩⟩
        · have e1 := I.cl _ h
          have xy : y = x := S₀.f.cap x y c q2 e1
          subst xy
          have hy := hmem' y c h
          obtain ⟨j, hj, ej⟩ := List.mem_iff_getElem.mp hy
          have hjc : j < ci.length := by rw [← hc.len]; exact hj
          have e2 : caps[j]? = some y := by rw [List.getElem?_eq_getElem hj, ej]
          have e3 : ci[j]? = some ci[j] := List.getElem?_eq_getElem hjc
          have e4 := hc.at' j _ y e3 e2
          have e5 : ci[j] = i := idx_inj S₀.f.nd e4 h1
          have e6 : (cvals ci ls)[j]? = some (some v) := by
            unfold cvals; rw [List.getElem?_map, e3, e5]; simp [h2]
          have e7 : ls'[j]? = some (some v) := by
            rw [← e6, ← hls, List.getElem?_take, if_pos hjc]
          have e8 : names'[j]? = some y := by rw [hc.nms, List.getElem?_append_left hj]; exact e2
          obtain ⟨u', hu', q'⟩ := hl j y v e8 e7
          have ki : (compEnvC scope cl C env).kindOf y = some .cell := by
            show (relabel scope env).names.lookup y = _
            rw [relabel_eq eo.scope]; exact (hc.cell y hy).2
          rcases q' with ⟨q', _⟩ | ⟨_, c', h3, h4⟩
          · rw [ki] at q'; cases q'
          · have h3' := I.cl _ (look_mem (show cl.lookup y = some c' from h3))
            have : c' = c := Option.some.inj (h3'.symm.trans q2)
            subst this
            exact ⟨u', hu', .inr ⟨q1, c', q2, h4⟩⟩
    · obtain ⟨c, v, h1, h2⟩ := S₀.f.cells x hx
      have ha : isFA env c := .inr ⟨x, mem_of_look h1⟩
      rcases hcap c ha with h | ⟨y, h⟩
      · obtain ⟨z1, z2⟩ := faG c ha h
        obtain ⟨o, ho, hd⟩ := h2
        exact ⟨c, v, h1, o, z2 o ho, hd⟩
      · have xy : y = x := S₀.f.cap x y c h1 (I.cl _ h)
        subst xy
        have ki : (compEnvC scope cl C env).kindOf y = some .cell := by
          show (relabel scope env).names.lookup y = _
          rw [relabel_eq eo.scope]; exact (hc.cell y (hmem' y c h)).2
        obtain ⟨c', v', h3, h4⟩ := S1.f.cells y ki
        have h3' := I.cl _ (look_mem (show cl.lookup y = some c' from h3))
        have e3 : c' = c := Option.some.inj (h3'.symm.trans h1)
        subst e3
        exact ⟨c', v', h1, h4⟩
  obtain ⟨us, mm, hA, rA⟩ := M.acc
  have kD : κ D = none := (M.S.grdAt (.inr rfl) hA).1
  obtain ⟨g', S2, k2⟩ := Sout.adopt (s' := s) (k := .lst k) (σ' := σ.setL k D acc) kD I.zD I.pD I.fD hD (fun its ⟨o, ho, hq, _⟩ => by rw [hA] at ho; cases ho; have hq : Value.type "list" = .type "tuple" := hq; injection hq with hq; exact absurd hq (by decide)) (Heap.ExtBut.refl _ _) (Nat.le_refl _) rfl rfl rfl
    (fun kt hm => ⟨us, mm, hA, by
      show VRels _ _ (if k = k ∧ D = D then acc else _) _
      rw [if_pos ⟨rfl, rfl⟩]
      exact rA.mono hm kt⟩) (fun _ _ _ => rfl) (fun c b hb => by show (if c = k ∧ b = D then acc else σ.lst c b) = _; rw [if_neg fun z => hb z.2]) (fun _ _ _ => rfl) (fun _ _ _ => rfl) (fun _ _ _ => rfl)
  have kC : upd κ D (.lst k) C = none := by rw [upd_ne (Ne.symm I.dc)]; exact FC.k
  refine ⟨_, oC, m, nC, g', ⟨{ S2.w with
      prot := fun a o h => h.elim (S2.w.prot a o) fun ⟨e1, e2⟩ => e1 ▸ e2 ▸ hoC
      apP := fun a k o e h => h.elim (S2.w.apP a k o e) fun ⟨ha, _⟩ => by rw [ha, kC] at e; cases e },
    S2.f.keep (fun _ _ e => e) (.refl _) (fun b hb => (S2.f.free b hb).k) (fun b hb x h => h.elim ((S2.f.free b hb).p x) fun ⟨ho, _⟩ => I.fC (ho ▸ hb)) (fun _ _ _ e => e)⟩, k2, hoC⟩
theorem St.letGo {C : Addr} {oC : Obj} {m : Str → Option Value} (S : St X κ (plusP P C oC) env names ls σ s) (hn : NsO oC m) (zC : X.hB.objs.size ≤ C) (pC : ∀ o, ¬ P C o) (fC : ¬ isFA env C) :
    ∃ m, s.heap.Ns C m ∧ ∀ h', Heap.SameBut C s.heap h' → KeepT κ s.heap h' ∧ St X κ P env names ls σ { s with heap := h' } := by
  obtain ⟨S1, kC, hoC⟩ := S.unkeep pC
  refine ⟨m, hn.ns hoC, fun h' hs => ?_⟩
  have kt : KeepT κ s.heap h' := KeepT.non hs.extBut (by rw [kC]; simp)
  exact ⟨kt, S1.step (s' := { s with heap := h' }) (x := C) ⟨kC, get_none_of_size zC, pC⟩ fC hs.extBut (Nat.le_of_eq hs.1.symm) rfl rfl⟩
end
end
section
open PyProof.V PySem.Spec
section
variable {X : GC} {κ κ' : Km} {P : Addr → Obj → Prop} {env : Env} {names names' : List Str} {ls ls' : Ls} {σ σ' : H} {s s' : Shared} {n : Nat} {sc : Scope} {A : Around} {pos : Pos}
theorem iter_self {it : Value} {ik : IK} {Q : Value → Shared → Prop} {E : Value → Shared → Prop} (I : ItSt X κ P env σ s it ik) (h : Q it s) : wpAny X.M A (pyIter it) Q E s := by
  obtain ⟨own, _, I⟩ := I
  cases ik with
  | lst k a i => obtain ⟨J, rfl, rfl, hit, _⟩ := I; exact wpAny_pyIter_listiter hit h
  | rng x m => obtain ⟨J, rfl, rfl, hit⟩ := I; exact wpAny_pyIter_rangeiter hit h
  | enm k a i => obtain ⟨e, J, old, rfl, rfl, hE, _⟩ := I; exact wpAny_pyIter_enum hE h
  | zip k a k' a' i => obtain ⟨z, TI, TO, i1, i2, x, y, rfl, rfl, hz, _⟩ := I; exact wpAny_pyIter_zip hz h
  | key k a i => obtain ⟨J, rfl, rfl, hit, _⟩ := I; exact wpAny_pyIter_keyiter hit h
  | tup l i => obtain ⟨J, t, us, rfl, rfl, ⟨o, ho, hc, hd⟩, _⟩ := I; exact wpAny_pyIter_tupleiter ⟨o, ho, hc, hd⟩ h
noncomputable def capCl (env : Env) (caps : List Str) : List (Str × Addr) := caps.map fun x => (x, (env.cells.lookup x).getD 0)
theorem capCl_keys (env : Env) (caps : List Str) : (capCl env caps).map (·.1) = caps := by unfold capCl; rw [List.map_map]; simp [Function.comp_def]
theorem capCl_ok {env : Env} {caps : List Str} (h : ∀ x ∈ caps, ∃ c, env.cells.lookup x = some c) : ∀ p ∈ capCl env caps, env.cells.lookup p.1 = some p.2 := fun p hp => by
  unfold capCl at hp
  obtain ⟨x, hx, rfl⟩ := List.mem_map.mp hp
  obtain ⟨c, hc⟩ := h x hx
  simp [hc]
theorem res_items {ik : IK} {a : Addr} : ik.items (σ.res a) = ik.items σ := by cases ik <;> rfl
theorem res_itObj {h : Heap} {ik : IK} {a : Addr} {it : Value} {own : List Addr} (I : ItObj κ h σ ik it own) : ItObj κ h (σ.res a) ik it own := by cases ik <;> exact I
theorem take_app {ci : List Nat} {ls : Ls} {m : Nat} : (cvals ci ls ++ List.replicate m none).take ci.length = cvals ci ls := by
  rw [List.take_append_of_le_length (by simp [cvals]), List.take_of_length_le (by simp [cvals])]
inductive CompI (X : GC) (P : Addr → Obj → Prop) (env env' : Env) (names' : List Str) (cl : List (Str × Addr)) (D : Addr) (s₀ : Shared) (κ₀ : Km) (it : Value) (tg : Expr) (nc : Nat) (ls₀ : Ls) (a : A1) (tt : T1) (te : E1) (Q : List V → H → Prop) (m : Nat) (s' : Shared) : Prop where
  | mk (κ : Km) (σ : H) (ls : Ls) (acc : List V) (ik : IK) (r : List V) (hm : r.length = m) (hr : ik.items σ = r) (g : Go κ₀ κ s₀ s') (M : Mid X κ P env env' names' cl D s₀.heap ls σ s' acc) (ht : ls.take nc = ls₀) (I : ItSt X κ (grdP P (innG env cl D) s'.heap) env' σ s' it ik) (htg : tgOk ik tg = true) (q : compL nc a tt te r ik ls acc σ Q)
theorem comp_loop {elt tg iter : Expr} {ifs : List Expr} {scope : Scope} {env' : Env} {sc' : Scope} {cl : List (Str × Addr)} {nc : Nat} {a : A1} {tt : T1} {te : E1} {D C : Addr} {s₀ : Shared} {κ₀ : Km} {it : Value} {ls₀ : Ls} {Q : List V → H → Prop} {R : Result → Shared → Prop}
    (eo' : EnvOk env' sc') (rm : Rm n A) (I : Inn X P env cl D C s₀.heap) (ha : SoundA X n sc' names' tg a) (hc : SoundC X n sc' names' ifs tt) (he : SoundE X n sc' names' elt te)
    (hR : ∀ κ σ s ls acc, Go κ₀ κ s₀ s → Mid X κ P env env' names' cl D s₀.heap ls σ s acc → ls.take nc = ls₀ → Q acc σ → R (.ok .next) s) {m : Nat} (h : CompI X P env env' names' cl D s₀ κ₀ it tg nc ls₀ a tt te Q m s) :
    codeAny X.M A (.compLoop (.ListComp elt [⟨tg, iter, ifs, 0⟩] scope pos) 0 it (.ref D) env') R s := by
  refine codeAny_compLoop_all (CompI X P env env' names' cl D s₀ κ₀ it tg nc ls₀ a tt te Q) (fun m s₁ h' => ?_) m h
  clear h
  obtain ⟨κ, σ, ls, acc, ik, r, hm, hr, g, M, ht, It, htg, q⟩ := h'
  refine wpAny_mono (next_ok rm M.S It htg) (fun x s₂ h => ?_) fun _ _ e => e.elim
  cases x with
  | none =>
    obtain ⟨e, kt, S₂⟩ := NextP.none h hr
    subst e
    refine hR κ σ s₂ ls acc (g.kt kt) ?_ ht q
    obtain ⟨us, mm, hA, rA⟩ := M.acc
    refine ⟨S₂.ungrd.grd fun b hb => ?_, fun b h1 h2 o ho => (S₂.grdAt (.inl ⟨h1, h2⟩) (M.keep b h1 h2 o ho)).2.1, us, mm, (S₂.grdAt (.inr rfl) hA).2.1, rA.mono (fun _ _ z => z) kt⟩
    obtain ⟨o, ho⟩ := M.exG I hb
    exact ⟨(S₂.grdAt hb ho).1, (S₂.grdAt hb ho).2.2⟩
  | some u =>
    refine wpAny_mono h (fun _ s₃ h => ?_) fun _ _ e => e.elim
    obtain ⟨v, r', κ₃, own, e, g₃, S₃, hO, I₃, rv⟩ := NextP.some h hr
    subst e
    refine wpAny_mono (ha _ A κ₃ (ownP _ own s₃.heap) ls σ s₃ _ v u eo' rm (S₃.guard hO) rv q) (fun _ s₄ h => ?_) fun _ _ e => e
    obtain ⟨κ₄, σ₄, ls₄, g₄, S₄, htk, q⟩ := h
    refine wpAny_mono (hc _ A κ₄ _ ls₄ σ₄ s₄ _ eo' rm S₄ q) (fun b s₅ h => ?_) fun _ _ e => e
    obtain ⟨κ₅, σ₅, g₅, S₅, q⟩ := h
    obtain ⟨us', mm', hA', rA⟩ := M.acc
    have G := g₃.trans (g₄.trans g₅)
    cases b with
    | false =>
      obtain ⟨⟨e1, e2⟩, q⟩ := q.2 rfl
      rw [if_neg Bool.false_ne_true]
      obtain ⟨g₆, M₆, I₆⟩ := Mid.turn (acc' := acc) (s₉ := s₅) M I hO I₃ (g₄.trans g₅) S₅ (adv_same e2) (fun _ _ _ e => e) (Nat.le_refl _) rfl rfl (fun kt _ => ⟨us', mm', (S₅.unguard.grdAt (.inr rfl) hA').2.1, rA.mono G.k G.t⟩)
      exact ⟨r'.length, hm ▸ Nat.lt_succ_self _, κ₅, σ₅, ls₄, acc, ik.adv, r', rfl, e1, g.trans (g₃.trans g₆), M₆, htk.trans ht, I₆, adv_tg htg, q⟩
    | true =>
      rw [if_pos rfl]
      refine wpAny_mono (he _ A κ₅ _ ls₄ σ₅ s₅ _ eo' rm S₅ (q.1 rfl)) (fun w s₆ h => ?_) fun _ _ e => e
      obtain ⟨κ₆, σ₆, v₆, g₆, S₆, rw₆, ⟨e0, e1, e2⟩, q⟩ := h
      have hA := (S₆.unguard.grdAt (.inr rfl) hA').2.1
      have G := G.trans g₆
      rw [rA.length] at e0
      refine append_at hA (fun h' hs hD => ?_) (Nat.le_trans e0 (by rw [sizeLine_eq]; decide))
      obtain ⟨g₇, M₇, I₇⟩ := Mid.turn (acc' := acc ++ [v₆]) (s₉ := { s₆ with heap := h' }) M I hO I₃ ((g₄.trans g₅).trans g₆) S₆ (adv_same e2) (fun b o hb e => hs.extBut b o hb e) (Nat.le_of_eq hs.1.symm) rfl rfl (fun kt _ =>
        ⟨us'.push w, mm' + 1, hD, by
          rw [Array.toList_push]
          exact ((rA.mono G.k G.t).append (v' := [v₆]) (u' := [w]) ⟨rw₆, trivial⟩).mono (fun _ _ z => z) kt⟩)
      exact ⟨r'.length, hm ▸ Nat.lt_succ_self _, κ₆, σ₆, ls₄, _, ik.adv, r', rfl, e1, g.trans (g₃.trans g₇), M₇, htk.trans ht, I₇, adv_tg htg, q⟩
theorem comp_run {elt tg iter : Expr} {ifs : List Expr} {scope : Scope} {ci : List Nat} {caps locs : List Str} {a : A1} {tt : T1} {te : E1} {t : I1} {k m : Nat} {use : Option (Value → Sem Unit)} {ppos : Pos} {Q : V → H → Prop} {R : Value → Shared → Prop}
    (hi : SoundI X n sc names tg iter t) (hcp : Caps sc scope names names' ci caps locs) (hm : locs.length = m) (ha : SoundA X n (relS scope sc) names' tg a) (hc : SoundC X n (relS scope sc) names' ifs tt) (he : SoundE X n (relS scope sc) names' elt te)
    (hclos : ∀ env : Env, (∀ x ∈ caps, ∃ c, env.cells.lookup x = some c) → closureFor scope env = pure (capCl env caps)) (hcell : ∀ y ∈ scope.names, y.2 ≠ .cell) (hkind : scope.kind = .function) (hnames : ∀ y ∈ scope.names, y.2 = .local → scope.names.lookup y.1 = some .local)
    (hs : ∀ env x, foldedSetIterable iter env x = pure x) (eo : EnvOk env sc) (rm : Rm n A) (S : St X κ P env names ls σ s) (q : pComp k ci m a tt te t ls σ Q)
    (hU : ∀ κ' σ' s' D C oC mC, Go κ κ' s s' → St X κ' (plusP P C oC) env names ls σ' s' → NsO oC mC → X.hB.objs.size ≤ C → (∀ o, ¬ P C o) → ¬ isFA env C → κ' D = some (.lst k) → s'.heap.get? C = some oC → Q (.ref (.lst k) D) σ' → compPost X.M A no use R (.ref D) C (.ok .next) s') :
    wpAny X.M A (comprehension (.ListComp elt [⟨tg, iter, ifs, 0⟩] scope pos) scope env ppos (newList []) false (eval iter env) use) R no s := by
  have hcs : ∀ x ∈ caps, ∃ c, env.cells.lookup x = some c := fun x hx => by
    have ko : env.kindOf x = some .cell := by unfold Env.kindOf; rw [eo.scope]; exact (hcp.cell x hx).1
    obtain ⟨c, v, h, _⟩ := S.f.cells x ko
    exact ⟨c, h⟩
  refine wpAny_comprehension_free (gs := []) (cl := capCl env caps) rfl (hs env) (hclos env hcs) hkind hnames (wpAny_mono (hi env A κ P ls σ s _ eo rm S q) (fun x s₁ h => wpAny_mono h (fun it s₂ ⟨κ₂, σ₂, ik, g₂, S₂, I₂, htg, hci, q⟩ => ?_) fun _ _ e => e) fun _ _ e => e)
  refine wpAny_newObj_type ?_
  show wpAny X.M A _ _ no { s₂ with heap := s₂.heap.push { cls := .type "list", data := .seq #[] } }
  obtain ⟨S₃, g₃, K, hD⟩ := S₂.reserve (o := { cls := .type "list", data := .seq #[] }) rfl
  refine wpAny_newFunctionEnv hcell (by intro y hy; simp at hy) (fun h₁ hns₁ hsb₁ => ?_) hkind
  dsimp only at hns₁ hsb₁ ⊢
  have szD : s₂.heap.objs.size < (s₂.heap.push { cls := .type "list", data := .seq #[] }).objs.size := by rw [Heap.size_push]; exact Nat.lt_succ_self _
  generalize hH2 : s₂.heap.push { cls := .type "list", data := .seq #[] } = H2 at hns₁ hsb₁ S₃ g₃ hD szD ⊢
  have keep1 : ∀ b o, H2.get? b = some o → h₁.get? b = some o := fun b o e => hsb₁.extBut b o (Nat.ne_of_lt (Heap.lt_size e)) (Heap.get?_push_of_some _ e)
  have szC : H2.objs.size < h₁.objs.size := by rw [hsb₁.1, Heap.size_push]; exact Nat.lt_succ_self _
  have S₄ : St X κ₂ (plusP P s₂.heap.objs.size _) env names ls (σ₂.res s₂.heap.objs.size) { s₂ with heap := h₁, toks := s₂.toks + 0 } := S₃.ext (s' := { s₂ with heap := h₁, toks := s₂.toks + 0 }) keep1 (Nat.le_of_lt szC) rfl rfl
  have FC := S₃.w.fresh (x := H2.objs.size) (Nat.le_refl _)
  have zC : X.hB.objs.size ≤ H2.objs.size := Nat.le_trans S₂.w.szB (Nat.le_of_lt szD)
  have fC : ¬ isFA env H2.objs.size := fun h => absurd (S₃.lt h) (Nat.lt_irrefl _)
  have I : Inn X P env (capCl env caps) s₂.heap.objs.size H2.objs.size s₂.heap := ⟨K.z, K.p, K.f, zC, fun o h => FC.p o (.inl h), fC, Nat.ne_of_lt szD, capCl_ok hcs, fun b hb => let ⟨o, ho, _⟩ := (S₂.f.free b hb).o; ⟨o, ho⟩⟩
  have kD : κ₂ s₂.heap.objs.size = none := (S₂.w.fresh (Nat.le_refl _)).k
  have Sin := S₄.inner (scope := scope) (ci := ci) eo hcp hm I (.inr (capCl_keys env caps)) FC.k (by simpa using hns₁) hci kD
  have keep2 : ∀ b o, s₂.heap.get? b = some o → h₁.get? b = some o := fun b o e => keep1 b o (hH2 ▸ Heap.get?_push_of_some _ e)
  have G₄ : Go κ₂ κ₂ s₂ { s₂ with heap := h₁, toks := s₂.toks + 0 } := ⟨fun _ _ e => e, KeepT.of keep2⟩
  have M₄ : Mid X κ₂ P env (compEnvC scope (capCl env caps) H2.objs.size env) names' (capCl env caps) s₂.heap.objs.size s₂.heap (cvals ci ls ++ List.replicate m none) (σ₂.res s₂.heap.objs.size) { s₂ with heap := h₁, toks := s₂.toks + 0 } [] :=
    ⟨Sin, fun b _ _ o ho => keep2 b o ho, #[], 0, keep1 _ _ hD, trivial⟩
  have It₄ : ItSt X κ₂ (grdP P (innG env (capCl env caps) s₂.heap.objs.size) h₁) (compEnvC scope (capCl env caps) H2.objs.size env) (σ₂.res s₂.heap.objs.size) { s₂ with heap := h₁, toks := s₂.toks + 0 } it ik := by
    obtain ⟨own, hO, hI⟩ := I₂
    have hI' := itObj_keep (κ' := κ₂) (h' := h₁) (σ' := σ₂) hI (fun _ _ e => e) G₄.t (fun b _ o e => keep2 b o e) (by cases ik <;> first | trivial | rfl)
    refine ⟨own, fun b hb => ?_, res_itObj hI'⟩
    have ob := hO b hb
    obtain ⟨o, ho⟩ := itObj_own hI b hb
    refine ⟨ob.k, ob.z, fun x h => ?_, fun h => ?_⟩
    · rcases h with h | ⟨⟨h, _⟩ | rfl, _⟩
      · exact ob.p x h
      · exact ob.f h
      · exact absurd (Heap.lt_size ho) (Nat.lt_irrefl _)
    · rcases I.fa h with rfl | ⟨h, _⟩
      · exact absurd (Nat.lt_trans (Heap.lt_size ho) szD) (Nat.lt_irrefl _)
      · exact ob.f h
  have loop := comp_loop (pos := pos) (scope := scope) (iter := iter) (κ₀ := κ₂) (s₀ := s₂) (it := it) (ls₀ := cvals ci ls) (R := compPost X.M A no use R (.ref s₂.heap.objs.size) H2.objs.size) (Q := fun acc σ₂' => s₂.heap.objs.size < σ₂'.nxt ∧ Q (.ref (.lst k) s₂.heap.objs.size) (σ₂'.setL k s₂.heap.objs.size acc))
    (compEnv_ok eo hkind) rm I ha hc he (fun κ₅ σ₅ s₅ ls₅ acc g₅ M₅ ht q => by
      obtain ⟨κ₆, oC, mC, nC, g₆, S₆, kD₆, hoC⟩ := M₅.out (k := k) eo hcp S₂ I (.inr (capCl_keys env caps)) hci g₅ ht q.1
      exact hU κ₆ _ s₅ _ _ oC mC ((g₂.trans g₅).trans g₆) S₆ nC zC (fun o h => FC.p o (.inl h)) fC kD₆ hoC q.2) ⟨κ₂, _, _, [], ik, _, rfl, res_items (a := s₂.heap.objs.size), G₄, M₄, take_app, It₄, htg, q _ S₂.w.size⟩
  exact codeAny_compStart_list loop (iter_self It₄ loop)
theorem s_comp {elt tg iter : Expr} {ifs : List Expr} {scope : Scope} {ci : List Nat} {caps locs : List Str} {a : A1} {tt : T1} {te : E1} {t : I1} {k m : Nat}
    (hi : SoundI X n sc names tg iter t) (hcp : Caps sc scope names names' ci caps locs) (hm : locs.length = m) (ha : SoundA X n (relS scope sc) names' tg a) (hc : SoundC X n (relS scope sc) names' ifs tt) (he : SoundE X n (relS scope sc) names' elt te)
    (hclos : ∀ env : Env, (∀ x ∈ caps, ∃ c, env.cells.lookup x = some c) → closureFor scope env = pure (capCl env caps)) (hcell : ∀ y ∈ scope.names, y.2 ≠ .cell) (hkind : scope.kind = .function) (hnames : ∀ y ∈ scope.names, y.2 = .local → scope.names.lookup y.1 = some .local)
    (hs : ∀ env x, foldedSetIterable iter env x = pure x := by exact fun _ _ => rfl) : SoundE X n sc names (.ListComp elt [⟨tg, iter, ifs, 0⟩] scope pos) (pComp k ci m a tt te t) := fun env A κ P ls σ s Q eo rm S q => by
  rw [eval_ListComp]
  refine comp_run hi hcp hm ha hc he hclos hcell hkind hnames hs eo rm S q fun κ' σ' s' D C oC mC g S' nC zC pC fC kD hoC q => ?_
  obtain ⟨mC, hN, h⟩ := S'.letGo nC zC pC fC
  refine ⟨mC, hN, fun h' hs => ?_⟩
  obtain ⟨kt, S''⟩ := h h' hs
  exact ⟨κ', σ', .ref (.lst k) D, g.kt kt, S'', ⟨rfl, kD⟩, q⟩
theorem t_setC {elt tg iter : Expr} {ifs : List Expr} {scope : Scope} {ci : List Nat} {caps locs : List Str} {a : A1} {tt : T1} {te : E1} {t : I1} {k m i : Nat} {y : Str} {py spos : Pos}
    (hy : names[i]? = some y) (hky : sc.names.lookup y = some .local ∨ sc.names.lookup y = some .cell) (hsw : ∀ env, EnvOk env sc → swapsWith (.ListComp elt [⟨tg, iter, ifs, 0⟩] scope pos) (some (.Name y py)) spos.line env = pure true)
    (hi : SoundI X n sc names tg iter t) (hcp : Caps sc scope names names' ci caps locs) (hm : locs.length = m) (ha : SoundA X n (relS scope sc) names' tg a) (hc : SoundC X n (relS scope sc) names' ifs tt) (he : SoundE X n (relS scope sc) names' elt te)
    (hclos : ∀ env : Env, (∀ x ∈ caps, ∃ c, env.cells.lookup x = some c) → closureFor scope env = pure (capCl env caps)) (hcell : ∀ y ∈ scope.names, y.2 ≠ .cell) (hkind : scope.kind = .function) (hnames : ∀ y ∈ scope.names, y.2 = .local → scope.names.lookup y.1 = some .local)
    (hs : ∀ env x, foldedSetIterable iter env x = pure x := by exact fun _ _ => rfl) : SoundS X n sc names (.Assign [.Name y py] (.ListComp elt [⟨tg, iter, ifs, 0⟩] scope pos) spos) (sSet i (pComp k ci m a tt te t)) := fun env A κ P ls σ s Q eo rm S q => by
  rw [exec_Assign_Name_used _ _ _ _ (hsw env eo)]
  refine wpAny_bind (wpAny_standAt (wpAny_bind ?_))
  show wpAny _ A (do let _ ← comprehension (.ListComp elt [⟨tg, iter, ifs, 0⟩] scope pos) scope env _ (newList []) false (eval iter env) (some (assign (.Name y py) env))) _ _ s
  refine wpAny_bind (wpAny_mono (comp_run (use := some (assign (.Name y py) env)) (R := fun _ s' => PostS X P env names κ s Q .next s') hi hcp hm ha hc he hclos hcell hkind hnames hs eo rm S q fun κ' σ' s' D C oC mC g S' nC zC pC fC kD hoC q => ?_) (fun _ s' hq => wpAny_pure (wpAny_pure hq)) fun _ _ e => e)
  show wpAny _ A (assign (.Name y py) env (.ref D)) _ _ _
  refine wpAny_assign_Name (S'.store eo hy hky (v := .ref (.lst k) D) ⟨rfl, kD⟩ fun s'' kt S'' => ?_)
  obtain ⟨mC, hN, h⟩ := S''.letGo nC zC pC fC
  refine ⟨mC, hN, fun h' hs => ?_⟩
  obtain ⟨kt', S₃⟩ := h h' hs
  exact ⟨κ', σ', _, .next, (g.kt kt).kt kt', S₃, rfl, q⟩
end
end
section
open PyProof.V PySem.Spec
def pSlice (k : Nat) (a : Addr) (l : List Int) (t : E1) (ls : Ls) (σ : H) (Q : V → H → Prop) : Prop := t ls σ fun v σ => v = .ext a ∧ ∀ b, σ.nxt ≤ b → Q (.ref (.lst k) b) (σ.newL k b (l.map .int))
theorem ints_rel {κ : Km} {h : Heap} {vs : List Value} {ns : List Int} (i : IntsAre vs ns) : VRels κ h (ns.map .int) vs := by
  induction i with
  | nil => exact trivial
  | cons _ _ _ ih => exact ⟨⟨_, rfl⟩, ih⟩
section
variable {X : GC} {n : Nat} {sc : Scope} {names : List Str} {pos p cp : Pos}
theorem s_slice {a : Addr} {vs : List Value} {ns : List Int} {e : Expr} {t : E1} {c : Nat} {k : Nat} {y : Nat} (hL : X.hB.IsList a vs.toArray) (hI : IntsAre vs ns) (hz : vs.length ≤ 1000) (h : SoundE X n sc names e t) (ht : ∀ o r, letTemporaryGo e o r = pure () := by exact fun _ _ => rfl) :
    SoundE X n sc names (.Subscript e (.Slice none (some (.Constant (.int (y : Int)) c cp)) none p) pos) (pSlice k a (ns.take y) t) := fun env A κ P ls σ s Q eo rm S q => by
  refine wpAny_Subscript_list_slice (h.run eo rm S q fun κ₁ σ₁ s₁ v u g₁ S₁ r q => ?_) ht
  refine evalPart_none_step (evalPart_some_step (wpAny_Constant_int ?_))
  obtain ⟨rfl, q⟩ := q
  obtain rfl : u = .ref a := r
  obtain ⟨o, ho, hc, m, hd⟩ := hL
  refine ⟨a, vs.toArray, none, some (y : Int), rfl, ⟨o, S₁.w.base _ _ ho, hc, m, hd⟩, by rw [sizeLine_eq, List.size_toArray]; exact pc1, by constructor, by constructor, ?_⟩
  have hp := slice_ints_uptoW hI (y := (y : Int)) (by exact pa1)
  have S₂ := (S₁.toks (s₁.toks + 1)).push { cls := .type "slice", data := .fields #[.none, .int (y : Int) s₁.toks, .none] }
  obtain ⟨κ₃, g₃, S₃, hk⟩ := S₂.newL (k := k) (vs := slicePick vs.toArray none (some (y : Int)) none) (l := (ns.take y).map .int) (by simpa using ints_rel hp)
  refine ⟨κ₃, _, .ref (.lst k) _, Go.trans (t := _) ⟨g₁.k, g₁.t.trans g₁.k (KeepT.of fun a o e => Heap.get?_push_of_some _ e)⟩ g₃, S₃, ⟨?_, hk⟩, q _ S₂.w.size⟩
  show Value.ref _ = Value.ref _
  rw [Heap.size_push]
end
end
section
open PyProof.V PySem.Spec
theorem not_cell {l : List (Str × NameKind)} {x : Str} (h : l.all (fun p => p.2 != .cell) = true) : l.lookup x ≠ some .cell := fun e => by
  have := List.all_eq_true.mp h _ (mem_of_lookup e)
  simp at this
theorem caps0 {sc scope : Scope} {names locs : List Str} (nd : locs.Nodup) (h : (relS scope sc).names.all (fun p => p.2 != .cell) = true) : Caps sc scope names locs [] [] locs where
  nms := rfl
  len := rfl
  at' := fun j i x h1 _ => by simp at h1
  nd := nd
  cell := fun x hx => by cases hx
  only := fun x e => absurd e (not_cell h)
theorem caps1 {sc scope : Scope} {names locs : List Str} {x : Str} {i : Nat} (hx : names[i]? = some x) (nd : (x :: locs).Nodup) (h1 : sc.names.lookup x = some .cell) (h2 : (relS scope sc).names.lookup x = some .cell) (h : (relS scope sc).names.all (fun p => p.2 != .cell || p.1 == x) = true) : Caps sc scope names (x :: locs) [i] [x] locs where
  nms := rfl
  len := rfl
  at' := fun j k y e1 e2 => by
    cases j with
    | zero => simp at e1 e2; subst e1 e2; exact hx
    | succ j => simp at e1
  nd := nd
  cell := fun y hy => by rw [List.mem_singleton] at hy; subst hy; exact ⟨h1, h2⟩
  only := fun y e => by
    have := List.all_eq_true.mp h _ (mem_of_lookup e)
    simpa using this
theorem forIn_clos (env : Env) : ∀ (l : List (Str × NameKind)) (acc : List (Str × Addr)), (∀ p ∈ l, p.2 = .free → ∃ c, env.cells.lookup p.1 = some c) →
    (forIn l acc fun p (cs : List (Str × Addr)) => if (p.2 == NameKind.free) = true then (do let c ← cellOf env p.1; pure (ForInStep.yield ((p.1, c) :: cs))) else (pure (ForInStep.yield cs) : Sem _)) = pure ((l.filter (·.2 == .free)).reverse.map (fun p => (p.1, (env.cells.lookup p.1).getD 0)) ++ acc)
  | [], acc, _ => rfl
  | (x, k) :: l, acc, h => by
    have ih := fun acc => forIn_clos env l acc fun p hp => h p (.tail _ hp)
    rw [List.forIn_cons]
    by_cases q : k = .free
    · subst q
      obtain ⟨c, hc⟩ := h (x, .free) (.head _) rfl
      have e1 : cellOf env x = pure c := by unfold cellOf; rw [hc]
      simp only [beq_self_eq_true, if_true, e1, pure_bind]
      rw [ih]
      simp [List.filter_cons, hc]
    · have q' : (k == NameKind.free) = false := by simpa using q
      simp only [q', Bool.false_eq_true, if_false, pure_bind]
      rw [ih]
      simp [List.filter_cons, q']
theorem clos_of {scope : Scope} {caps : List Str} (e : ((scope.names.filter (·.2 == .free)).reverse.map (·.1)) = caps) (env : Env) (h : ∀ x ∈ caps, ∃ c, env.cells.lookup x = some c) : closureFor scope env = pure (capCl env caps) := by
  unfold closureFor
  have := forIn_clos env scope.names [] fun p hp hf => h p.1 (by
    rw [← e]
    exact List.mem_map_of_mem (List.mem_reverse.mpr (List.mem_filter.mpr ⟨hp, by simp [hf]⟩)))
  rw [List.append_nil] at this
  have e2 : (List.map (fun p => (p.1, (env.cells.lookup p.1).getD 0)) (scope.names.filter (·.2 == .free)).reverse) = capCl env caps := by
    unfold capCl; rw [← e, List.map_map]; rfl
  rw [e2] at this
  simpa using this
end
section
set_option maxRecDepth 100000
set_option maxHeartbeats 4000000
open PyProof.V PySem.Spec
@[reducible] noncomputable def B_Shape_init : S1 := (sCons (sPutF (pV 1) (pV 0) 0) (sCons (sPutF (pV 2) (pV 0) 1) (sCons (sPutF (pV 3) (pV 0) 2) (sCons (sPutF (pK .none) (pV 0) 3) (sCons (sPutF (pK (.int 0)) (pV 0) 4) (sCons (sPutF (pIf (tCmp fIs (pV 2) (pK .none)) (pK (.int 0)) (pF (pV 2) 5)) (pV 0) 5) (sCons (sPutF (pOr (pCmp fIs (pV 2) (pK .none)) (pF (pV 2) 6)) (pV 0) 6) (sCons (sPutF (pDict0T 0) (pV 0) 7) (sCons (sPutF (pK .none) (pV 0) 8) (sCons (sPutF (pK .none) (pV 0) 9) sNil))))))))))
noncomputable def F_Shape_init : F1 := fDef 4 0 B_Shape_init
@[reducible] noncomputable def B_Shape_rows : S1 := (sCons (sSet 1 (pList 0 eNil)) (sCons (sSet 2 (pV 0)) (sCons (sWhile (tCmp fIsNot (pV 2) (pK .none)) (sCons (sIf (tCmp fIsNot (pF (pV 2) 3) (pK .none)) (sCons (sExpr (pAppend (pV 1) (pTup (eCons (pF (pV 2) 3) (eCons (pF (pV 2) 4) eNil))))) sNil) sNil) (sCons (sSet 2 (pF (pV 2) 1)) sNil))) (sCons (sExpr (pRev (pV 1))) (sCons (sRet (pV 1)) sNil)))))
noncomputable def F_Shape_rows : F1 := fDef 1 2 B_Shape_rows
@[reducible] noncomputable def B_Shape_place : S1 := (sCons (sIf (tCmp fIs (pF (pV 0) 9) (pK .none)) (sCons (sPutF (pDict0S 0) (pV 0) 9) (sCons (sFor (iEnum (pMeth [(0, F_Shape_rows)] (pV 0) eNil)) (aTup 2 (asCons (aVar 2) (asCons (aVar 3) asNil))) (sCons (sPutI (pTup (eCons (pV 2) (eCons (pSub (pV 3) (pK (.int 1))) eNil))) (pF (pV 0) 9) (pSub (pV 3) (pK (.int 0)))) sNil)) sNil)) sNil) (sCons (sRet (pGet (pF (pV 0) 9) (pV 1))) sNil))
noncomputable def F_Shape_place : F1 := fDef 2 2 B_Shape_place
@[reducible] noncomputable def B_ShapeTree_init : S1 := (sCons (sPutF (pV 1) (pV 0) 10) (sCons (sPutF (pK (.int 0)) (pV 0) 11) (sCons (sPutF (pDict0I 0) (pV 0) 12) sNil)))
noncomputable def F_ShapeTree_init : F1 := fDef 2 0 B_ShapeTree_init
@[reducible] noncomputable def B_ShapeTree_next_number : S1 := (sCons (sAugF (pV 0) 11 (pK (.int 1))) (sCons (sRet (pF (pV 0) 11)) sNil))
noncomputable def F_ShapeTree_next_number : F1 := fDef 1 0 B_ShapeTree_next_number
@[reducible] noncomputable def B_ShapeTree_root : S1 := (sCons (sSet 2 (pIf (tCmp fIs (pV 1) (pK .none)) (pK (.int 0)) (pF (pV 1) 0))) (sCons (sIf (tCmp fNotIn (pV 2) (pF (pV 0) 12)) (sCons (sPutI (pCall (fNew 0 F_Shape_init) (eCons (pMeth [(1, F_ShapeTree_next_number)] (pV 0) eNil) (eCons (pK .none) (eCons (pV 1) eNil)))) (pF (pV 0) 12) (pV 2)) sNil) sNil) (sCons (sRet (pSub (pF (pV 0) 12) (pV 2))) sNil)))
noncomputable def F_ShapeTree_root : F1 := fDef 2 1 B_ShapeTree_root
@[reducible] noncomputable def B_ShapeTree_added : S1 := (sCons (sSet 4 (pTup (eCons (pV 2) (eCons (pV 3) eNil)))) (sCons (sIf (tCmp fNotIn (pV 4) (pF (pV 1) 7)) (sCons (sSet 5 (pCall (fNew 0 F_Shape_init) (eCons (pMeth [(1, F_ShapeTree_next_number)] (pV 0) eNil) (eCons (pV 1) (eCons (pF (pV 1) 2) eNil))))) (sCons (sPutF (pV 2) (pV 5) 3) (sCons (sPutF (pV 3) (pV 5) 4) (sCons (sPutF (pBin fAdd (pF (pV 1) 5) (pK (.int 1))) (pV 5) 5) (sCons (sPutI (pV 5) (pF (pV 1) 7) (pV 4)) sNil))))) sNil) (sCons (sRet (pSub (pF (pV 1) 7) (pV 4))) sNil)))
noncomputable def F_ShapeTree_added : F1 := fDef 4 2 B_ShapeTree_added
@[reducible] noncomputable def B_ShapeTree_shut : S1 := (sCons (sIf (tNot (tVal (pF (pV 1) 6))) (sCons (sRet (pV 1)) sNil) sNil) (sCons (sIf (tCmp fIs (pF (pV 1) 8) (pK .none)) (sCons (sPutF (pCall (fNew 0 F_Shape_init) (eCons (pMeth [(1, F_ShapeTree_next_number)] (pV 0) eNil) (eCons (pV 1) (eCons (pF (pV 1) 2) eNil)))) (pV 1) 8) (sCons (sPutF (pK (.bool false)) (pF (pV 1) 8) 6) sNil)) sNil) (sCons (sRet (pF (pV 1) 8)) sNil)))
noncomputable def F_ShapeTree_shut : F1 := fDef 2 0 B_ShapeTree_shut
@[reducible] noncomputable def B_ShapeTree_built : S1 := (sCons (sSet 4 (pMeth [(1, F_ShapeTree_root)] (pV 0) (eCons (pV 2) eNil))) (sCons (sFor (iLst (pV 1)) (aTup 2 (asCons (aVar 5) (asCons (aVar 6) asNil))) (sCons (sSet 4 (pMeth [(1, F_ShapeTree_added)] (pV 0) (eCons (pV 4) (eCons (pV 5) (eCons (pV 6) eNil))))) sNil)) (sCons (sRet (pIf (tVal (pV 3)) (pV 4) (pMeth [(1, F_ShapeTree_shut)] (pV 0) (eCons (pV 4) eNil)))) sNil)))
noncomputable def F_ShapeTree_built : F1 := fDef 4 3 B_ShapeTree_built
@[reducible] noncomputable def B_Store_init : S1 := (sCons (sPutF (pV 1) (pV 0) 13) (sCons (sPutF (pMeth [(1, F_ShapeTree_next_number)] (pV 1) eNil) (pV 0) 0) (sCons (sPutF (pMeth [(1, F_ShapeTree_root)] (pV 1) (eCons (pV 2) eNil)) (pV 0) 14) (sCons (sPutF (pList 1 eNil) (pV 0) 15) (sCons (sPutF (pDict0S 1) (pV 0) 16) (sCons (sPutF (pK (.bool false)) (pV 0) 17) (sCons (sPutF (pK .none) (pV 0) 18) (sCons (sPutF (pK (.bool true)) (pV 0) 19) sNil))))))))
noncomputable def F_Store_init : F1 := fDef 3 0 B_Store_init
@[reducible] noncomputable def B_Store_above : S1 := (sCons (sRet (pIf (tVal (pF (pV 0) 17)) (pF (pV 0) 18) (pF (pF (pV 0) 14) 2))) sNil)
noncomputable def F_Store_above : F1 := fDef 1 0 B_Store_above
@[reducible] noncomputable def B_Store_can_grow : S1 := (sCons (sRet (pIf (tVal (pF (pV 0) 17)) (pF (pV 0) 19) (pF (pF (pV 0) 14) 6))) sNil)
noncomputable def F_Store_can_grow : F1 := fDef 1 0 B_Store_can_grow
@[reducible] noncomputable def B_Store_find : S1 := (sCons (sIf (tVal (pF (pV 0) 17)) (sCons (sRet (pGet (pF (pV 0) 16) (pV 1))) sNil) sNil) (sCons (sSet 2 (pMeth [(0, F_Shape_place)] (pF (pV 0) 14) (eCons (pV 1) eNil))) (sCons (sRet (pIf (tCmp fIs (pV 2) (pK .none)) (pK .none) (pTup (eCons (pSub (pV 2) (pK (.int 1))) (eCons (pSub (pF (pV 0) 15) (pSub (pV 2) (pK (.int 0)))) eNil))))) sNil)))
noncomputable def F_Store_find : F1 := fDef 2 1 B_Store_find
@[reducible] noncomputable def B_Store_rows : S1 := (sCons (sIf (tVal (pF (pV 0) 17)) (sCons (sRet (pComp 2 [0] 1 (aVar 1) tTrue (pTup (eCons (pV 1) (eCons (pSub (pSub (pF (pV 0) 16) (pV 1)) (pK (.int 0))) (eCons (pSub (pSub (pF (pV 0) 16) (pV 1)) (pK (.int 1))) eNil)))) (iKey (pF (pV 0) 16)))) sNil) sNil) (sCons (sRet (pComp 2 [0] 2 (aTup 2 (asCons (aVar 1) (asCons (aVar 2) asNil))) tTrue (pTup (eCons (pSub (pV 2) (pK (.int 0))) (eCons (pSub (pV 2) (pK (.int 1))) (eCons (pSub (pF (pV 0) 15) (pV 1)) eNil)))) (iEnum (pMeth [(0, F_Shape_rows)] (pF (pV 0) 14) eNil)))) sNil))
noncomputable def F_Store_rows : F1 := fDef 1 0 B_Store_rows
@[reducible] noncomputable def B_Store_go_alone : S1 := (sCons (sIf (tNot (tVal (pF (pV 0) 17))) (sCons (sFor (iLst (pMeth [(2, F_Store_rows)] (pV 0) eNil)) (aTup 3 (asCons (aVar 1) (asCons (aVar 2) (asCons (aVar 3) asNil)))) (sCons (sPutI (pTup (eCons (pV 2) (eCons (pV 3) eNil))) (pF (pV 0) 16) (pV 1)) sNil)) (sCons (sPutF (pF (pF (pV 0) 14) 2) (pV 0) 18) (sCons (sPutF (pF (pF (pV 0) 14) 6) (pV 0) 19) (sCons (sPutF (pList 1 eNil) (pV 0) 15) (sCons (sPutF (pK (.bool true)) (pV 0) 17) sNil))))) sNil) sNil)
noncomputable def F_Store_go_alone : F1 := fDef 1 3 B_Store_go_alone
@[reducible] noncomputable def B_Store_reflag : S1 := (sCons (sSet 3 (pMeth [(0, F_Shape_rows)] (pF (pV 0) 14) eNil)) (sCons (sPutI (pTup (eCons (pSub (pSub (pV 3) (pV 1)) (pK (.int 0))) (eCons (pV 2) eNil))) (pV 3) (pV 1)) (sCons (sPutF (pMeth [(1, F_ShapeTree_built)] (pF (pV 0) 13) (eCons (pV 3) (eCons (pF (pF (pV 0) 14) 2) (eCons (pF (pF (pV 0) 14) 6) eNil)))) (pV 0) 14) sNil)))
noncomputable def F_Store_reflag : F1 := fDef 3 1 B_Store_reflag
@[reducible] noncomputable def B_Store_put : S1 := (sCons (sSet 4 (pIf (tVal (pF (pV 0) 17)) (pK .none) (pMeth [(0, F_Shape_place)] (pF (pV 0) 14) (eCons (pV 1) eNil)))) (sCons (sIf (tAnd [(tCmp fIs (pV 4) (pK .none)), (tNot (tVal (pF (pV 0) 17))), (tOr [(tCmp fGe (pF (pF (pV 0) 14) 5) (pF (pF (pV 0) 13) 10)), (tNot (tVal (pF (pF (pV 0) 14) 6)))])]) (sCons (sExpr (pMeth [(2, F_Store_go_alone)] (pV 0) eNil)) sNil) sNil) (sCons (sIf (tVal (pF (pV 0) 17)) (sCons (sPutI (pTup (eCons (pV 2) (eCons (pV 3) eNil))) (pF (pV 0) 16) (pV 1)) sNil) (sCons (sIf (tCmp fIs (pV 4) (pK .none)) (sCons (sPutF (pMeth [(1, F_ShapeTree_added)] (pF (pV 0) 13) (eCons (pF (pV 0) 14) (eCons (pV 1) (eCons (pV 2) eNil)))) (pV 0) 14) (sCons (sExpr (pAppend (pF (pV 0) 15) (pV 3))) sNil)) (sCons (sPutI (pV 3) (pF (pV 0) 15) (pSub (pV 4) (pK (.int 0)))) (sCons (sIf (tCmp fNe (pV 2) (pSub (pV 4) (pK (.int 1)))) (sCons (sExpr (pMeth [(2, F_Store_reflag)] (pV 0) (eCons (pSub (pV 4) (pK (.int 0))) (eCons (pV 2) eNil)))) sNil) sNil) sNil))) sNil)) sNil)))
noncomputable def F_Store_put : F1 := fDef 4 1 B_Store_put
@[reducible] noncomputable def B_Store_remove : S1 := (sCons (sIf (tVal (pF (pV 0) 17)) (sCons (sExpr (pPopD (pF (pV 0) 16) (pV 1) (pK .none))) sNil) (sCons (sIf (tCmp fEq (pF (pF (pV 0) 14) 3) (pV 1)) (sCons (sPutF (pF (pF (pV 0) 14) 1) (pV 0) 14) (sCons (sExpr (pPop (pF (pV 0) 15))) sNil)) (sCons (sIf (tCmp fIsNot (pMeth [(0, F_Shape_place)] (pF (pV 0) 14) (eCons (pV 1) eNil)) (pK .none)) (sCons (sExpr (pMeth [(2, F_Store_go_alone)] (pV 0) eNil)) (sCons (sExpr (pPopD (pF (pV 0) 16) (pV 1) (pK .none))) sNil)) sNil) sNil)) sNil)) sNil)
noncomputable def F_Store_remove : F1 := fDef 2 0 B_Store_remove
@[reducible] noncomputable def B_Store_close : S1 := (sCons (sIf (tVal (pF (pV 0) 17)) (sCons (sPutF (pK (.bool false)) (pV 0) 19) sNil) (sCons (sPutF (pMeth [(1, F_ShapeTree_shut)] (pF (pV 0) 13) (eCons (pF (pV 0) 14) eNil)) (pV 0) 14) sNil)) sNil)
noncomputable def F_Store_close : F1 := fDef 1 0 B_Store_close
@[reducible] noncomputable def B_Store_set_proto : S1 := (sCons (sIf (tVal (pF (pV 0) 17)) (sCons (sPutF (pV 1) (pV 0) 18) sNil) (sCons (sPutF (pMeth [(1, F_ShapeTree_built)] (pF (pV 0) 13) (eCons (pMeth [(0, F_Shape_rows)] (pF (pV 0) 14) eNil) (eCons (pV 1) (eCons (pF (pF (pV 0) 14) 6) eNil)))) (pV 0) 14) sNil)) sNil)
noncomputable def F_Store_set_proto : F1 := fDef 2 0 B_Store_set_proto
@[reducible] noncomputable def B_holder_of : S1 := (sCons (sSet 2 (pK (.int 0))) (sCons (sWhile (tAnd [(tCmp fIsNot (pV 0) (pK .none)), (tCmp fIs (pMeth [(2, F_Store_find)] (pV 0) (eCons (pV 1) eNil)) (pK .none))]) (sCons (sSet 0 (pMeth [(2, F_Store_above)] (pV 0) eNil)) (sCons (sAug 2 (pK (.int 1))) sNil))) (sCons (sRet (pTup (eCons (pV 2) (eCons (pV 0) eNil)))) sNil)))
noncomputable def F_holder_of : F1 := fDef 2 1 B_holder_of
@[reducible] noncomputable def B_look : S1 := (sCons (sSet 2 (pSub (pCall F_holder_of (eCons (pV 0) (eCons (pV 1) eNil))) (pK (.int 1)))) (sCons (sRet (pIf (tCmp fIs (pV 2) (pK .none)) (pK .none) (pMeth [(2, F_Store_find)] (pV 2) (eCons (pV 1) eNil)))) sNil))
noncomputable def F_look : F1 := fDef 2 1 B_look
@[reducible] noncomputable def B_may_come : S1 := (sCons (sSet 2 (pCall F_look (eCons (pV 0) (eCons (pV 1) eNil)))) (sCons (sIf (tAnd [(tCmp fIsNot (pV 2) (pK .none)), (tVal (pBin fAnd (pSub (pV 2) (pK (.int 0))) (pK (.int 8))))]) (sCons (sRet (pK (.int 2))) sNil) sNil) (sCons (sIf (tAnd [(tCmp fIsNot (pV 2) (pK .none)), (tNot (tVal (pBin fAnd (pSub (pV 2) (pK (.int 0))) (pK (.int 1)))))]) (sCons (sRet (pK (.int 0))) sNil) sNil) (sCons (sRet (pIf (tVal (pMeth [(2, F_Store_can_grow)] (pV 0) eNil)) (pK (.int 1)) (pK (.int 0)))) sNil))))
noncomputable def F_may_come : F1 := fDef 2 1 B_may_come
@[reducible] noncomputable def B_write : S1 := (sCons (sSet 3 (pMeth [(2, F_Store_find)] (pV 0) (eCons (pV 1) eNil))) (sCons (sIf (tCmp fIs (pV 3) (pK .none)) (sCons (sSet 4 (pCall F_may_come (eCons (pV 0) (eCons (pV 1) eNil)))) (sCons (sIf (tCmp fEq (pV 4) (pK (.int 1))) (sCons (sExpr (pMeth [(2, F_Store_put)] (pV 0) (eCons (pV 1) (eCons (pK (.int 7)) (eCons (pV 2) eNil))))) sNil) sNil) (sCons (sRet (pTup (eCons (pV 4) (eCons (pIf (tCmp fEq (pV 4) (pK (.int 2))) (pSub (pSub (pCall F_look (eCons (pV 0) (eCons (pV 1) eNil))) (pK (.int 1))) (pK (.int 1))) (pK .none)) eNil)))) sNil))) sNil) (sCons (sIf (tVal (pBin fAnd (pSub (pV 3) (pK (.int 0))) (pK (.int 8)))) (sCons (sRet (pTup (eCons (pK (.int 2)) (eCons (pSub (pSub (pV 3) (pK (.int 1))) (pK (.int 1))) eNil)))) sNil) sNil) (sCons (sIf (tNot (tVal (pBin fAnd (pSub (pV 3) (pK (.int 0))) (pK (.int 1))))) (sCons (sRet (pTup (eCons (pK (.int 0)) (eCons (pK .none) eNil)))) sNil) sNil) (sCons (sExpr (pMeth [(2, F_Store_put)] (pV 0) (eCons (pV 1) (eCons (pSub (pV 3) (pK (.int 0))) (eCons (pV 2) eNil))))) (sCons (sRet (pTup (eCons (pK (.int 1)) (eCons (pK .none) eNil)))) sNil))))))
noncomputable def F_write : F1 := fDef 3 2 B_write
@[reducible] noncomputable def B_Entry_init : S1 := (sCons (sPutF (pV 1) (pV 0) 14) (sCons (sPutF (pV 2) (pV 0) 20) (sCons (sPutF (pK (.int 0)) (pV 0) 21) (sCons (sPutF (pK .none) (pV 0) 22) (sCons (sPutF (pK (.int 0)) (pV 0) 4) (sCons (sPutF (pK .none) (pV 0) 7) sNil))))))
noncomputable def F_Entry_init : F1 := fDef 3 0 B_Entry_init
@[reducible] noncomputable def B_Entry_holds : S1 := (sCons (sIf (tOr [(tVal (pF (pV 1) 17)), (tCmp fNe (pF (pF (pV 1) 14) 0) (pF (pF (pV 0) 14) 0))]) (sCons (sRet (pK (.bool false))) sNil) sNil) (sCons (sFor (iLst (pF (pV 0) 20)) (aVar 2) (sCons (sSet 1 (pMeth [(2, F_Store_above)] (pV 1) eNil)) (sCons (sIf (tOr [(tVal (pF (pV 1) 17)), (tCmp fNe (pF (pF (pV 1) 14) 0) (pF (pV 2) 0))]) (sCons (sRet (pK (.bool false))) sNil) sNil) sNil))) (sCons (sRet (pK (.bool true))) sNil)))
noncomputable def F_Entry_holds : F1 := fDef 2 1 B_Entry_holds
@[reducible] noncomputable def B_Entry_holder : S1 := (sCons (sFor (iRng1 (pF (pV 0) 21)) (aVar 2) (sCons (sSet 1 (pMeth [(2, F_Store_above)] (pV 1) eNil)) sNil)) (sCons (sRet (pV 1)) sNil))
noncomputable def F_Entry_holder : F1 := fDef 2 1 B_Entry_holder
@[reducible] noncomputable def B_guards_up : S1 := (sCons (sSet 2 (pList 3 eNil)) (sCons (sFor (iRng1 (pV 1)) (aVar 3) (sCons (sSet 0 (pMeth [(2, F_Store_above)] (pV 0) eNil)) (sCons (sIf (tCmp fIs (pV 0) (pK .none)) (sCons (sRet (pV 2)) sNil) sNil) (sCons (sIf (tVal (pF (pV 0) 17)) (sCons (sRet (pK .none)) sNil) sNil) (sCons (sExpr (pAppend (pV 2) (pF (pV 0) 14))) sNil))))) (sCons (sRet (pV 2)) sNil)))
noncomputable def F_guards_up : F1 := fDef 2 2 B_guards_up
@[reducible] noncomputable def B_learnt : S1 := (sCons (sAsg (pCall F_holder_of (eCons (pV 0) (eCons (pV 1) eNil))) (aTup 2 (asCons (aVar 2) (asCons (aVar 3) asNil)))) (sCons (sSet 4 (pIf (tVal (pF (pV 0) 17)) (pK .none) (pCall F_guards_up (eCons (pV 0) (eCons (pV 2) eNil))))) (sCons (sIf (tCmp fIs (pV 4) (pK .none)) (sCons (sRet (pK .none)) sNil) sNil) (sCons (sSet 5 (pCall (fNew 3 F_Entry_init) (eCons (pF (pV 0) 14) (eCons (pV 4) eNil)))) (sCons (sIf (tCmp fIsNot (pV 3) (pK .none)) (sCons (sPutF (pV 2) (pV 5) 21) (sCons (sAsg (pMeth [(0, F_Shape_place)] (pF (pV 3) 14) (eCons (pV 1) eNil)) (aTup 2 (asCons (aFld (pV 5) 22) (asCons (aFld (pV 5) 4) asNil)))) sNil)) sNil) (sCons (sRet (pV 5)) sNil))))))
noncomputable def F_learnt : F1 := fDef 2 4 B_learnt
@[reducible] noncomputable def B_Site_init : S1 := (sCons (sPutF (pV 1) (pV 0) 3) (sCons (sPutF (pV 2) (pV 0) 10) (sCons (sPutF (pList 4 eNil) (pV 0) 23) (sCons (sPutF (pK (.bool false)) (pV 0) 24) (sCons (sPutF (pK (.int 0)) (pV 0) 25) (sCons (sPutF (pK (.int 0)) (pV 0) 26) sNil))))))
noncomputable def F_Site_init : F1 := fDef 3 0 B_Site_init
@[reducible] noncomputable def B_Site_entry_for : S1 := (sCons (sFor (iLst (pF (pV 0) 23)) (aVar 2) (sCons (sIf (tVal (pMeth [(3, F_Entry_holds)] (pV 2) (eCons (pV 1) eNil))) (sCons (sAugF (pV 0) 25 (pK (.int 1))) (sCons (sRet (pV 2)) sNil)) sNil) sNil)) (sCons (sAugF (pV 0) 26 (pK (.int 1))) (sCons (sRet (pK .none)) sNil)))
noncomputable def F_Site_entry_for : F1 := fDef 2 1 B_Site_entry_for
@[reducible] noncomputable def B_Site_learn : S1 := (sCons (sIf (tOr [(tCmp fIs (pV 1) (pK .none)), (tVal (pF (pV 0) 24))]) (sCons sRet0 sNil) sNil) (sCons (sSet 2 (pComp 4 [1] 1 (aVar 1) (tCmp fNe (pF (pF (pV 1) 14) 0) (pF (pF (pV 0) 14) 0)) (pV 1) (iLst (pF (pV 0) 23)))) (sCons (sPutF (pCmp fGe (pBi fLen (pV 2)) (pF (pV 0) 10)) (pV 0) 24) (sCons (sPutF (pIf (tVal (pF (pV 0) 24)) (pList 4 eNil) (pBin fAdd (pV 2) (pList 13 (eCons (pV 1) eNil)))) (pV 0) 23) sNil))))
noncomputable def F_Site_learn : F1 := fDef 2 1 B_Site_learn
@[reducible] noncomputable def B_ReadSite_read : S1 := (sCons (sSet 2 (pMeth [(4, F_Site_entry_for)] (pV 0) (eCons (pV 1) eNil))) (sCons (sIf (tCmp fIs (pV 2) (pK .none)) (sCons (sExpr (pMeth [(4, F_Site_learn)] (pV 0) (eCons (pCall F_learnt (eCons (pV 1) (eCons (pF (pV 0) 3) eNil))) eNil))) (sCons (sRet (pCall F_look (eCons (pV 1) (eCons (pF (pV 0) 3) eNil)))) sNil)) sNil) (sCons (sIf (tCmp fIs (pF (pV 2) 22) (pK .none)) (sCons (sRet (pK .none)) sNil) sNil) (sCons (sRet (pTup (eCons (pF (pV 2) 4) (eCons (pSub (pF (pMeth [(3, F_Entry_holder)] (pV 2) (eCons (pV 1) eNil)) 15) (pF (pV 2) 22)) eNil)))) sNil))))
noncomputable def F_ReadSite_read : F1 := fDef 2 1 B_ReadSite_read
@[reducible] noncomputable def B_WriteSite_write_to : S1 := (sCons (sSet 3 (pMeth [(5, F_Site_entry_for)] (pV 0) (eCons (pV 1) eNil))) (sCons (sIf (tCmp fIs (pV 3) (pK .none)) (sCons (sSet 4 (pCall F_learnt (eCons (pV 1) (eCons (pF (pV 0) 3) eNil)))) (sCons (sSet 5 (pCall F_write (eCons (pV 1) (eCons (pF (pV 0) 3) (eCons (pV 2) eNil))))) (sCons (sIf (tAnd [(tCmp fEq (pSub (pV 5) (pK (.int 0))) (pK (.int 1))), (tCmp fIsNot (pV 4) (pK .none)), (tNot (tVal (pF (pV 1) 17)))]) (sCons (sPutF (pF (pV 1) 14) (pV 4) 7) (sCons (sExpr (pMeth [(5, F_Site_learn)] (pV 0) (eCons (pV 4) eNil))) sNil)) sNil) (sCons (sRet (pV 5)) sNil)))) sNil) (sCons (sIf (tCmp fEq (pF (pF (pV 3) 7) 0) (pF (pF (pV 3) 14) 0)) (sCons (sPutI (pV 2) (pF (pV 1) 15) (pF (pV 3) 22)) sNil) (sCons (sPutF (pF (pV 3) 7) (pV 1) 14) (sCons (sExpr (pAppend (pF (pV 1) 15) (pV 2))) sNil))) (sCons (sRet (pTup (eCons (pK (.int 1)) (eCons (pK .none) eNil)))) sNil))))
noncomputable def F_WriteSite_write_to : F1 := fDef 3 3 B_WriteSite_write_to
@[reducible] noncomputable def B_law_take : S1 := (sCons (sIf (tCmp fGt (pBi fLen (pSub (pV 0) (pK (.int 0)))) (pK (.int 0))) (sCons (sRet (pBin fMod (pPop0 (pSub (pV 0) (pK (.int 0))) (pK (.int 0))) (pV 1))) sNil) sNil) (sCons (sPutI (pBin fMod (pBin fAdd (pBin fMul (pSub (pV 0) (pK (.int 1))) (pK (.int 4093))) (pK (.int 12289))) (pK (.int 1000003))) (pV 0) (pK (.int 1))) (sCons (sRet (pBin fMod (pBin fDiv (pSub (pV 0) (pK (.int 1))) (pK (.int 8))) (pV 1))) sNil)))
noncomputable def F_law_take : F1 := fDef 2 0 B_law_take
@[reducible] noncomputable def B_law_own : S1 := (sCons (sRet (pGet (pBi (fDict 4) (pComp 13 [] 1 (aVar 0) tTrue (pTup (eCons (pSub (pV 0) (pK (.int 0))) (eCons (pTup (eCons (pSub (pV 0) (pK (.int 1))) (eCons (pSub (pV 0) (pK (.int 2))) eNil))) eNil))) (iLst (pSub (pSub (pV 0) (pV 1)) (pK (.str "rows")))))) (pV 2))) sNil)
noncomputable def F_law_own : F1 := fDef 3 0 B_law_own
@[reducible] noncomputable def B_law_seen : S1 := (sCons (sWhile (tCmp fIsNot (pV 1) (pK .none)) (sCons (sSet 3 (pCall F_law_own (eCons (pV 0) (eCons (pV 1) (eCons (pV 2) eNil))))) (sCons (sIf (tCmp fIsNot (pV 3) (pK .none)) (sCons (sRet (pV 3)) sNil) sNil) (sCons (sSet 1 (pSub (pSub (pV 0) (pV 1)) (pK (.str "above")))) sNil)))) (sCons (sRet (pK .none)) sNil))
noncomputable def F_law_seen : F1 := fDef 3 1 B_law_seen
@[reducible] noncomputable def B_law_put : S1 := (sCons (sSet 5 (pSub (pSub (pV 0) (pV 1)) (pK (.str "rows")))) (sCons (sSet 6 (pComp 13 [2] 2 (aTup 2 (asCons (aVar 1) (asCons (aVar 2) asNil))) (tCmp fEq (pSub (pV 2) (pK (.int 0))) (pV 0)) (pV 1) (iEnum (pV 5)))) (sCons (sIf (tCmp fEq (pV 6) (pList 13 eNil)) (sCons (sExpr (pAppend (pV 5) (pTup (eCons (pV 2) (eCons (pV 3) (eCons (pV 4) eNil)))))) sNil) (sCons (sPutI (pTup (eCons (pV 2) (eCons (pV 3) (eCons (pV 4) eNil)))) (pV 5) (pSub (pV 6) (pK (.int 0)))) sNil)) sNil)))
noncomputable def F_law_put : F1 := fDef 5 2 B_law_put
@[reducible] noncomputable def B_law_written : S1 := (sCons (sSwap2 (pTup (eCons (pCall F_law_own (eCons (pV 0) (eCons (pV 1) (eCons (pV 2) eNil)))) (eCons (pCall F_law_seen (eCons (pV 0) (eCons (pV 1) (eCons (pV 2) eNil)))) eNil))) 4 5) (sCons (sIf (tAnd [(tCmp fIsNot (pV 5) (pK .none)), (tCmp fGe (pSub (pV 5) (pK (.int 0))) (pK (.int 8)))]) (sCons (sRet (pTup (eCons (pK (.int 2)) (eCons (pSub (pSub (pV 5) (pK (.int 1))) (pK (.int 1))) eNil)))) sNil) sNil) (sCons (sIf (tOr [(tAnd [(tCmp fIsNot (pV 5) (pK .none)), (tCmp fEq (pBin fMod (pSub (pV 5) (pK (.int 0))) (pK (.int 2))) (pK (.int 0)))]), (tAnd [(tCmp fIs (pV 4) (pK .none)), (tNot (tVal (pSub (pSub (pV 0) (pV 1)) (pK (.str "open")))))])]) (sCons (sRet (pTup (eCons (pK (.int 0)) (eCons (pK .none) eNil)))) sNil) sNil) (sCons (sExpr (pCall F_law_put (eCons (pV 0) (eCons (pV 1) (eCons (pV 2) (eCons (pIf (tCmp fIs (pV 4) (pK .none)) (pK (.int 7)) (pSub (pV 4) (pK (.int 0)))) (eCons (pV 3) eNil))))))) (sCons (sRet (pTup (eCons (pK (.int 1)) (eCons (pK .none) eNil)))) sNil)))))
noncomputable def F_law_written : F1 := fDef 4 2 B_law_written
@[reducible] noncomputable def B_law_shared : S1 := (sCons (sWhile (tCmp fIsNot (pV 2) (pK .none)) (sCons (sIf (tVal (pF (pSub (pV 1) (pV 2)) 17)) (sCons (sRet (pK (.bool false))) sNil) sNil) (sCons (sIf (tCmp fIsNot (pCall F_law_own (eCons (pV 0) (eCons (pV 2) (eCons (pV 3) eNil)))) (pK .none)) (sCons (sRet (pK (.bool true))) sNil) sNil) (sCons (sSet 2 (pSub (pSub (pV 0) (pV 2)) (pK (.str "above")))) sNil)))) (sCons (sRet (pK (.bool true))) sNil))
noncomputable def F_law_shared : F1 := fDef 4 0 B_law_shared
@[reducible] noncomputable def B_law_learnt : S1 := (sCons (sIf (tVal (pSub (pV 0) (pK (.str "lost")))) (sCons sRet0 sNil) sNil) (sCons (sSet 3 (pComp 10 [1] 1 (aVar 1) (tCmp fNe (pV 1) (pV 0)) (pV 1) (iLst (pSub (pV 0) (pK (.str "shapes")))))) (sCons (sPutI (pCmp fGe (pBi fLen (pV 3)) (pV 2)) (pV 0) (pK (.str "lost"))) (sCons (sPutI (pIf (tVal (pSub (pV 0) (pK (.str "lost")))) (pList 10 eNil) (pBin fAdd (pV 3) (pList 13 (eCons (pV 1) eNil)))) (pV 0) (pK (.str "shapes"))) sNil))))
noncomputable def F_law_learnt : F1 := fDef 3 1 B_law_learnt
@[reducible] noncomputable def B_law_keeps : S1 := (sCons (sSet 2 (pComp 10 [] 1 (aVar 0) tTrue (pF (pF (pV 0) 14) 0) (iLst (pF (pV 0) 23)))) (sCons (sRet (pAnd (pCmp fEq (pV 2) (pSub (pV 1) (pK (.str "shapes")))) (pCmp fEq (pBi fRepr (pF (pV 0) 24)) (pBi fRepr (pSub (pV 1) (pK (.str "lost"))))))) sNil))
noncomputable def F_law_keeps : F1 := fDef 2 1 B_law_keeps
@[reducible] noncomputable def B_law_read_right : S1 := (sCons (sSwap3 (pTup (eCons (pCall F_law_seen (eCons (pV 0) (eCons (pV 2) (eCons (pF (pV 3) 3) eNil)))) (eCons (pBin fAdd (pF (pV 3) 25) (pF (pV 3) 26)) (eCons (pF (pV 3) 26) eNil)))) 5 6 7) (sCons (sSet 8 (pCall F_law_shared (eCons (pV 0) (eCons (pV 1) (eCons (pV 2) (eCons (pF (pV 3) 3) eNil)))))) (sCons (sIf (tCmp fNe (pMeth [(4, F_ReadSite_read)] (pV 3) (eCons (pSub (pV 1) (pV 2)) eNil)) (pV 5)) (sCons (sRet (pK (.bool false))) sNil) sNil) (sCons (sIf (tAnd [(tCmp fGt (pF (pV 3) 26) (pV 7)), (tVal (pV 8))]) (sCons (sExpr (pCall F_law_learnt (eCons (pV 4) (eCons (pF (pF (pSub (pV 1) (pV 2)) 14) 0) (eCons (pF (pV 3) 10) eNil))))) sNil) sNil) (sCons (sSet 9 (pF (pV 3) 25)) (sCons (sIf (tOr [(tNot (tVal (pCall F_law_keeps (eCons (pV 3) (eCons (pV 4) eNil))))), (tCmp fNe (pMeth [(4, F_ReadSite_read)] (pV 3) (eCons (pSub (pV 1) (pV 2)) eNil)) (pV 5)), (tCmp fNe (pBin fAdd (pF (pV 3) 25) (pF (pV 3) 26)) (pBin fAdd (pV 6) (pK (.int 2))))]) (sCons (sRet (pK (.bool false))) sNil) sNil) (sCons (sRet (pOr (pSub (pV 4) (pK (.str "lost"))) (pOr (pNot (pV 8)) (pCmp fEq (pF (pV 3) 25) (pBin fAdd (pV 9) (pK (.int 1))))))) sNil)))))))
noncomputable def F_law_read_right : F1 := fDef 5 5 B_law_read_right
@[reducible] noncomputable def B_law_write_right : S1 := (sCons (sAsg (pTup (eCons (pSub (pV 1) (pV 2)) (eCons (pF (pV 3) 3) (eCons (pBin fAdd (pF (pV 3) 25) (pF (pV 3) 26)) (eCons (pF (pV 3) 26) eNil))))) (aTup 4 (asCons (aVar 6) (asCons (aVar 7) (asCons (aVar 8) (asCons (aVar 9) asNil)))))) (sCons (sSwap2 (pTup (eCons (pCmp fIsNot (pCall F_law_own (eCons (pV 0) (eCons (pV 2) (eCons (pV 7) eNil)))) (pK .none)) (eCons (pCall F_law_shared (eCons (pV 0) (eCons (pV 1) (eCons (pV 2) (eCons (pV 7) eNil))))) eNil))) 10 11) (sCons (sSet 12 (pIf (tVal (pF (pV 6) 17)) (pK (.int 0)) (pF (pF (pV 6) 14) 0))) (sCons (sSet 13 (pCall F_law_written (eCons (pV 0) (eCons (pV 2) (eCons (pV 7) (eCons (pV 5) eNil)))))) (sCons (sIf (tOr [(tCmp fNe (pMeth [(5, F_WriteSite_write_to)] (pV 3) (eCons (pV 6) (eCons (pV 5) eNil))) (pV 13)), (tCmp fNe (pBin fAdd (pF (pV 3) 25) (pF (pV 3) 26)) (pBin fAdd (pV 8) (pK (.int 1))))]) (sCons (sRet (pK (.bool false))) sNil) sNil) (sCons (sIf (tAnd [(tCmp fGt (pF (pV 3) 26) (pV 9)), (tVal (pV 11)), (tCmp fEq (pSub (pV 13) (pK (.int 0))) (pK (.int 1))), (tNot (tVal (pF (pV 6) 17)))]) (sCons (sExpr (pCall F_law_learnt (eCons (pV 4) (eCons (pV 12) (eCons (pF (pV 3) 10) eNil))))) sNil) sNil) (sCons (sIf (tNot (tVal (pCall F_law_keeps (eCons (pV 3) (eCons (pV 4) eNil))))) (sCons (sRet (pK (.bool false))) sNil) sNil) (sCons (sIf (tOr [(tNot (tVal (pV 10))), (tCmp fNe (pSub (pV 13) (pK (.int 0))) (pK (.int 1))), (tVal (pF (pV 6) 17)), (tVal (pSub (pV 4) (pK (.str "lost"))))]) (sCons (sRet (pK (.bool true))) sNil) sNil) (sCons (sSet 14 (pF (pV 3) 25)) (sCons (sExpr (pCall F_law_written (eCons (pV 0) (eCons (pV 2) (eCons (pV 7) (eCons (pBin fAdd (pV 5) (pK (.int 1))) eNil)))))) (sCons (sRet (pAnd (pCmp fEq (pMeth [(5, F_WriteSite_write_to)] (pV 3) (eCons (pV 6) (eCons (pBin fAdd (pV 5) (pK (.int 1))) eNil))) (pTup (eCons (pK (.int 1)) (eCons (pK .none) eNil)))) (pCmp fEq (pF (pV 3) 25) (pBin fAdd (pV 14) (pK (.int 1)))))) sNil)))))))))))
noncomputable def F_law_write_right : F1 := fDef 6 9 B_law_write_right
@[reducible] noncomputable def B_law_change : S1 := (sCons (sSwap3 (pTup (eCons (pCall F_law_take (eCons (pV 0) (eCons (pK (.int 8)) eNil))) (eCons (pSub (pV 2) (pV 3)) (eCons (pSub (pV 1) (pV 3)) eNil)))) 5 6 7) (sCons (sSwap2 (pTup (eCons (pCall F_law_take (eCons (pV 0) (eCons (pK (.int 8)) eNil))) (eCons (pCall F_law_take (eCons (pV 0) (eCons (pK (.int 9)) eNil))) eNil))) 8 9) (sCons (sIf (tCmp fLt (pV 5) (pK (.int 4))) (sCons (sIf (tCmp fEq (pV 5) (pK (.int 3))) (sCons (sSwap2 (pTup (eCons (pBin fAdd (pBin fMul (pBin fDiv (pV 8) (pK (.int 2))) (pK (.int 2))) (pK (.int 8))) (eCons (pTup (eCons (pBin fAdd (pK (.str "get")) (pBi fStr (pV 9))) (eCons (pBin fAdd (pK (.str "set")) (pBi fStr (pV 9))) eNil))) eNil))) 8 9) sNil) sNil) (sCons (sExpr (pMeth [(2, F_Store_put)] (pV 6) (eCons (pV 4) (eCons (pV 8) (eCons (pV 9) eNil))))) (sCons (sExpr (pCall F_law_put (eCons (pV 1) (eCons (pV 3) (eCons (pV 4) (eCons (pV 8) (eCons (pV 9) eNil))))))) sNil))) (sCons (sIf (tCmp fLt (pV 5) (pK (.int 6))) (sCons (sExpr (pMeth [(2, F_Store_remove)] (pV 6) (eCons (pV 4) eNil))) (sCons (sPutI (pComp 7 [4] 1 (aVar 1) (tCmp fNe (pSub (pV 1) (pK (.int 0))) (pV 0)) (pV 1) (iLst (pSub (pV 7) (pK (.str "rows"))))) (pV 7) (pK (.str "rows"))) sNil)) (sCons (sIf (tAnd [(tCmp fEq (pV 5) (pK (.int 6))), (tCmp fEq (pV 9) (pK (.int 0)))]) (sCons (sExpr (pMeth [(2, F_Store_close)] (pV 6) eNil)) (sCons (sPutI (pK (.bool false)) (pV 7) (pK (.str "open"))) sNil)) (sCons (sIf (tAnd [(tCmp fEq (pV 5) (pK (.int 6))), (tCmp fEq (pV 9) (pK (.int 1)))]) (sCons (sExpr (pMeth [(2, F_Store_go_alone)] (pV 6) eNil)) sNil) (sCons (sIf (tCmp fGt (pV 3) (pK (.int 0))) (sCons (sPutI (pSub (pList 13 (eCons (pK .none) (eCons (pBin fSub (pV 3) (pK (.int 1))) eNil))) (pBin fMod (pV 8) (pK (.int 2)))) (pV 7) (pK (.str "above"))) (sCons (sExpr (pMeth [(2, F_Store_set_proto)] (pV 6) (eCons (pIf (tCmp fIs (pSub (pV 7) (pK (.str "above"))) (pK .none)) (pK .none) (pSub (pV 2) (pBin fSub (pV 3) (pK (.int 1))))) eNil))) sNil)) sNil) sNil)) sNil)) sNil)) sNil)) sNil)))
noncomputable def F_law_change : F1 := fDef 5 5 B_law_change
@[reducible] noncomputable def B_law_all_right : S1 := (sCons (sFor (iZip (pV 0) (pV 1)) (aTup 2 (asCons (aVar 2) (asCons (aVar 3) asNil))) (sCons (sIf (tOr [(tCmp fNe (pMeth [(2, F_Store_rows)] (pV 3) eNil) (pSub (pV 2) (pK (.str "rows")))), (tCmp fNe (pBi fRepr (pMeth [(2, F_Store_can_grow)] (pV 3) eNil)) (pBi fRepr (pSub (pV 2) (pK (.str "open")))))]) (sCons (sRet (pK (.bool false))) sNil) sNil) sNil)) (sCons (sRet (pK (.bool true))) sNil))
noncomputable def F_law_all_right : F1 := fDef 2 2 B_law_all_right
@[reducible] noncomputable def B_law (sa : Addr) (ns : List Int) : S1 := (sCons (sSet 1 (pList 11 (eCons (pComp 12 [] 1 (aVar 0) tTrue (pBi fInt (pV 0)) (iLst (pSlice 12 sa (ns.take 48) (pV 0)))) (eCons (pK (.int 7)) eNil)))) (sCons (sFor (iLst (pSlice 12 sa (ns.take 48) (pV 0))) (aVar 2) (sCons (sPutI (pBin fMod (pBin fAdd (pBin fMul (pSub (pV 1) (pK (.int 1))) (pK (.int 31))) (pV 2)) (pK (.int 1000003))) (pV 1) (pK (.int 1))) sNil)) (sCons (sAsg (pTup (eCons (pBin fAdd (pK (.int 3)) (pCall F_law_take (eCons (pV 1) (eCons (pK (.int 2)) eNil)))) (eCons (pBin fAdd (pK (.int 1)) (pCall F_law_take (eCons (pV 1) (eCons (pK (.int 3)) eNil)))) (eCons (pCall (fNew 1 F_ShapeTree_init) (eCons (pK (.int 4)) eNil)) eNil)))) (aTup 3 (asCons (aVar 3) (asCons (aVar 4) (asCons (aVar 5) asNil))))) (sCons (sSwap2 (pTup (eCons (pList 5 (eCons (pDictS 2 ["rows", "above", "open"] (eCons (pList 7 eNil) (eCons (pK .none) (eCons (pK (.bool true)) eNil)))) eNil)) (eCons (pList 6 (eCons (pCall (fNew 2 F_Store_init) (eCons (pV 5) (eCons (pK .none) eNil))) eNil)) eNil))) 6 7) (sCons (sFor (iRng2 (pK (.int 1)) (pV 3)) (aVar 8) (sCons (sSet 9 (pIf (tCmp fGt (pCall F_law_take (eCons (pV 1) (eCons (pK (.int 4)) eNil))) (pK (.int 0))) (pBin fSub (pV 8) (pK (.int 1))) (pK .none))) (sCons (sExpr (pAppend (pV 6) (pDictS 2 ["rows", "above", "open"] (eCons (pList 7 eNil) (eCons (pV 9) (eCons (pK (.bool true)) eNil)))))) (sCons (sExpr (pAppend (pV 7) (pCall (fNew 2 F_Store_init) (eCons (pV 5) (eCons (pIf (tCmp fIs (pV 9) (pK .none)) (pK .none) (pSub (pV 7) (pV 9))) eNil))))) sNil)))) (sCons (sSet 10 (pComp 8 [4] 1 (aVar 1) tTrue (pCall (fNew 4 F_Site_init) (eCons (pV 1) (eCons (pV 0) eNil))) (iTup (pTup (eCons (pK (.str "a")) (eCons (pK (.str "b")) (eCons (pK (.str "c")) eNil))))))) (sCons (sSet 11 (pComp 8 [4] 1 (aVar 1) tTrue (pCall (fNew 5 F_Site_init) (eCons (pV 1) (eCons (pV 0) eNil))) (iTup (pTup (eCons (pK (.str "a")) (eCons (pK (.str "b")) (eCons (pK (.str "c")) eNil))))))) (sCons (sSet 12 (pComp 9 [] 1 (aVar 0) tTrue (pDictS 3 ["shapes", "lost"] (eCons (pList 10 eNil) (eCons (pK (.bool false)) eNil))) (iRng1 (pK (.int 6))))) (sCons (sFor (iRng1 (pBin fAdd (pK (.int 7)) (pCall F_law_take (eCons (pV 1) (eCons (pK (.int 5)) eNil))))) (aVar 13) (sCons (sSwap3 (pTup (eCons (pCall F_law_take (eCons (pV 1) (eCons (pV 3) eNil))) (eCons (pCall F_law_take (eCons (pV 1) (eCons (pK (.int 3)) eNil))) (eCons (pCall F_law_take (eCons (pV 1) (eCons (pK (.int 8)) eNil))) eNil)))) 8 14 15) (sCons (sIf (tAnd [(tCmp fLt (pV 15) (pK (.int 3))), (tNot (tVal (pCall F_law_read_right (eCons (pV 6) (eCons (pV 7) (eCons (pV 8) (eCons (pSub (pV 10) (pV 14)) (eCons (pSub (pV 12) (pV 14)) eNil))))))))]) (sCons (sRet (pK (.bool false))) sNil) sNil) (sCons (sIf (tAnd [(tCmp2 fLe fLt (pK (.int 3)) (pV 15) (pK (.int 5))), (tNot (tVal (pCall F_law_write_right (eCons (pV 6) (eCons (pV 7) (eCons (pV 8) (eCons (pSub (pV 11) (pV 14)) (eCons (pSub (pV 12) (pBin fAdd (pK (.int 3)) (pV 14))) (eCons (pCall F_law_take (eCons (pV 1) (eCons (pK (.int 9)) eNil))) eNil)))))))))]) (sCons (sRet (pK (.bool false))) sNil) sNil) (sCons (sIf (tCmp fGe (pV 15) (pK (.int 5))) (sCons (sExpr (pCall F_law_change (eCons (pV 1) (eCons (pV 6) (eCons (pV 7) (eCons (pV 8) (eCons (pSub (pTup (eCons (pK (.str "a")) (eCons (pK (.str "b")) (eCons (pK (.str "c")) eNil)))) (pV 14)) eNil))))))) sNil) sNil) (sCons (sIf (tNot (tVal (pCall F_law_all_right (eCons (pV 6) (eCons (pV 7) eNil))))) (sCons (sRet (pK (.bool false))) sNil) sNil) sNil)))))) (sCons (sRet (pK (.bool true))) sNil))))))))))
end
section
set_option linter.unusedSimpArgs false
noncomputable abbrev Rw := List (Str × Int)
noncomputable abbrev R3 := List (Str × Int × V)
noncomputable def abc : List Str := [Str.ofString "a", Str.ofString "b", Str.ofString "c"]
def GR (r : Rw) : Prop := (r.map (·.1)).Nodup ∧ ∀ x ∈ r, x.1 ∈ abc ∧ 0 ≤ x.2 ∧ x.2 < 16
def GR3 (r : R3) : Prop := GR (r.map fun x => (x.1, x.2.1)) ∧ ∀ x ∈ r, x.2.2.pl 3 = true ∧ (8 ≤ x.2.1 → ∃ g s : Str, x.2.2 = .p2 (.str g) (.str s) ∧ PyData.strOk s = true)
theorem nodup_len {α : Type} [DecidableEq α] : ∀ {l m : List α}, l.Nodup → (∀ x ∈ l, x ∈ m) → l.length ≤ m.length
  | [], m, _, _ => Nat.zero_le _
  | a :: l, m, nd, h => by
    have ha := h a (.head _)
    have nd' := List.nodup_cons.mp nd
    have ih := nodup_len (m := m.erase a) nd'.2 fun x hx => by
      have : x ≠ a := fun e => nd'.1 (e ▸ hx)
      exact (List.mem_erase_of_ne this).mpr (h x (.tail _ hx))
    rw [List.length_erase_of_mem ha] at ih
    have : 0 < m.length := List.length_pos_of_mem ha
    simp only [List.length_cons]; omega
theorem GR.len {r : Rw} (h : GR r) : r.length ≤ 3 := by
  have := nodup_len (m := abc) h.1 (fun x hx => by obtain ⟨y, hy, rfl⟩ := List.mem_map.mp hx; exact (h.2 y hy).1)
  rw [List.length_map] at this; exact this
theorem GR3.len {r : R3} (h : GR3 r) : r.length ≤ 3 := by have := h.1.len; rwa [List.length_map] at this
set_option genInjectivity false in
structure Sh where
  num : Int
  bef : Option Addr
  pro : Option Addr
  key : Option Str
  flg : Int
  rows : Rw
  op : Bool
  lat : Addr
noncomputable abbrev SM := Addr → Option Sh
noncomputable abbrev shv (a : Addr) : V := .ref (.inst 0) a
noncomputable abbrev stv (a : Addr) : V := .ref (.inst 2) a
noncomputable def proV : Option Addr → V | none => .none | some p => stv p
noncomputable def befV : Option Addr → V | none => .none | some b => shv b
noncomputable def keyV : Option Str → V | none => .none | some k => .str k
noncomputable def keyR (k : Option Str) (f : Int) : Rw := match k with | none => [] | some k => [(k, f)]
noncomputable def rowV (x : Str × Int) : V := .p2 (.str x.1) (.int x.2)
noncomputable def placesL : Nat → Rw → List (Str × V)
  | _, [] => []
  | n, (k, f) :: r => (k, .p2 (.int n) (.int f)) :: placesL (n + 1) r
noncomputable def idxR : Nat → Rw → Str → Option (Nat × Int)
  | _, [], _ => none
  | n, (k, f) :: r, x => if k = x then some (n, f) else idxR (n + 1) r x
noncomputable def plV : Option (Nat × Int) → V | none => .none | some p => .p2 (.int p.1) (.int p.2)
structure ShOk (σ : H) (S : SM) (a : Addr) (i : Sh) : Prop where
  f0 : σ.fld 0 a 0 = some (.int i.num)
  f1 : σ.fld 0 a 1 = some (befV i.bef)
  f2 : σ.fld 0 a 2 = some (proV i.pro)
  f3 : σ.fld 0 a 3 = some (keyV i.key)
  f4 : σ.fld 0 a 4 = some (.int i.flg)
  f5 : σ.fld 0 a 5 = some (.int i.rows.length)
  f6 : σ.fld 0 a 6 = some (.bool i.op)
  f7 : σ.fld 0 a 7 = some (.ref (.dT 0) i.lat)
  f8 : σ.fld 0 a 8 = some .none ∨ ∃ b j, σ.fld 0 a 8 = some (shv b) ∧ S b = some j ∧ j.op = false ∧ j.rows = i.rows ∧ j.pro = i.pro
  f9 : σ.fld 0 a 9 = some .none ∨ ∃ d, σ.fld 0 a 9 = some (.ref (.dS 0) d) ∧ d < σ.nxt ∧ (σ.dS 0 d).1 = placesL 0 i.rows
  lt : a < σ.nxt
  latlt : i.lat < σ.nxt
  num0 : 0 < i.num
  good : GR i.rows
  bef : ∀ b, i.bef = some b → ∃ j, S b = some j ∧ j.num < i.num ∧ j.pro = i.pro ∧ j.op = true ∧ i.rows = j.rows ++ keyR i.key i.flg
  bef0 : i.bef = none → i.rows = [] ∧ i.key = none ∧ i.op = true
  keyop : i.key ≠ none → i.op = true
  lat : ∀ e ∈ σ.dT 0 i.lat, e.1.1 ∈ abc ∧ 0 ≤ e.1.2 ∧ e.1.2 < 16 ∧ ∃ b j, e.2 = shv b ∧ S b = some j ∧ j.pro = i.pro ∧ j.op = true ∧ j.rows = i.rows ++ [e.1]
  latnd : ((σ.dT 0 i.lat).map (·.1)).Nodup
structure SI (σ : H) (tr ro : Addr) (N : Nat) (S : SM) : Prop where
  sh : ∀ a i, S a = some i → ShOk σ S a i
  inj : ∀ a b i j, S a = some i → S b = some j → i.num = j.num → a = b
  latinj : ∀ a b i j, S a = some i → S b = some j → i.lat = j.lat → a = b
  t10 : σ.fld 1 tr 10 = some (.int 4)
  t11 : ∃ md : Int, σ.fld 1 tr 11 = some (.int md) ∧ 0 ≤ md ∧ (∀ a i, S a = some i → i.num ≤ md) ∧ ∀ p n, σ.fld 2 p 0 = some (.int n) → 0 < n ∧ n ≤ md
  t12 : σ.fld 1 tr 12 = some (.ref (.dI 0) ro)
  roots : ∀ e ∈ σ.dI 0 ro, ∃ b j, e.2 = shv b ∧ S b = some j ∧ j.op = true ∧ j.rows = [] ∧ (e.1 = 0 ∧ j.pro = none ∨ ∃ p, σ.fld 2 p 0 = some (.int e.1) ∧ j.pro = some p)
  rond : ((σ.dI 0 ro).map (·.1)).Nodup
  rolt : ro < σ.nxt
  trlt : tr < σ.nxt
  numinj : ∀ p q n, σ.fld 2 p 0 = some (.int n) → σ.fld 2 q 0 = some (.int n) → p = q
  reg : ∃ l : List Int, l.length ≤ N ∧ ∀ p n, σ.fld 2 p 0 = some (.int n) → n ∈ l
  n10 : N ≤ 10
structure FrA (σ σ' : H) : Prop where
  nxt : σ.nxt ≤ σ'.nxt
  fld : ∀ c, 2 ≤ c → σ'.fld c = σ.fld c
  lst : ∀ k a, (k = 0 → a < σ.nxt) → σ'.lst k a = σ.lst k a
  dS : ∀ k, 1 ≤ k → σ'.dS k = σ.dS k
theorem FrA.refl (σ : H) : FrA σ σ := ⟨Nat.le_refl _, fun _ _ => rfl, fun _ _ _ => rfl, fun _ _ => rfl⟩
theorem FrA.trans {a b c : H} (x : FrA a b) (y : FrA b c) : FrA a c :=
  ⟨Nat.le_trans x.nxt y.nxt, fun c h => (y.fld c h).trans (x.fld c h), fun k a h => (y.lst k a fun e => Nat.lt_of_lt_of_le (h e) x.nxt).trans (x.lst k a h), fun k h => (y.dS k h).trans (x.dS k h)⟩
def Ext (S S' : SM) : Prop := ∀ a i, S a = some i → S' a = some i
theorem Ext.refl (S : SM) : Ext S S := fun _ _ h => h
theorem Ext.trans {a b c : SM} (x : Ext a b) (y : Ext b c) : Ext a c := fun p i h => y p i (x p i h)
theorem newL_setL {σ : H} {k : Nat} {c : Addr} {l l' : List V} : (σ.newL k c l).setL k c l' = σ.newL k c l' := by
  simp only [H.newL, H.setL, H.mk.injEq, true_and, and_true]
  funext k' a'
  by_cases h : k' = k ∧ a' = c <;> simp [h]
theorem rd_setF_lst {σ : H} {c f : Nat} {a : Addr} {v : V} : (σ.setF c a f v).lst = σ.lst := rfl
theorem rd_newL_dS {σ : H} {k : Nat} {a : Addr} {l : List V} : (σ.newL k a l).dS = σ.dS := rfl
theorem rd_setS_dS {σ : H} {k e : Nat} {a : Addr} {d : List (Str × V)} {k' : Nat} {a' : Addr} : (σ.setS k a d e).dS k' a' = if k' = k ∧ a' = a then (d, e) else σ.dS k' a' := rfl
theorem fEq_pl {a b : V} {σ : H} {Q : Bool → H → Prop} (ha : a.pl 4 = true) (hb : b.pl 4 = true) : fEq a b σ Q = Q (decide (a = b)) σ := by
  have e : fEq a b σ Q = (a.pl 4 = true ∧ b.pl 4 = true ∧ Q (decide (a = b)) σ) := by
    cases a <;> first | rfl | (rename_i k x; cases ha)
  rw [e, ha, hb]; simp
theorem fEq_int {i j : Int} {σ : H} {Q : Bool → H → Prop} : fEq (.int i) (.int j) σ Q = Q (decide (i = j)) σ := by rw [fEq_pl rfl rfl]; simp
theorem fNe_def {a b : V} {σ : H} {Q : Bool → H → Prop} : fNe a b σ Q = fEq a b σ fun x σ => Q (!x) σ := rfl
theorem dget_places : ∀ (r : Rw) (n : Nat) (x : Str), (dget (placesL n r) x).getD .none = plV (idxR n r x)
  | [], _, _ => rfl
  | (k, f) :: r, n, x => by
    have ih := dget_places r (n + 1) x
    unfold dget at ih ⊢
    unfold placesL idxR
    by_cases h : k = x
    · simp [h, plV]
    · simp only [List.find?_cons, h, decide_false, if_false]; exact ih
theorem placesL_keys : ∀ (r : Rw) (n : Nat), (placesL n r).map (·.1) = r.map (·.1)
  | [], _ => rfl
  | (k, f) :: r, n => by unfold placesL; rw [List.map_cons, List.map_cons, placesL_keys r (n + 1)]
theorem placesL_snoc : ∀ (r : Rw) (n : Nat) (k : Str) (f : Int), placesL n (r ++ [(k, f)]) = placesL n r ++ [(k, .p2 (.int ((n + r.length : Nat) : Int)) (.int f))]
  | [], n, k, f => by simp [placesL]
  | (k', f') :: r, n, k, f => by
    show (k', _) :: placesL (n + 1) (r ++ [(k, f)]) = _
    rw [placesL_snoc r (n + 1) k f]
    simp [placesL, Nat.add_assoc, Nat.add_comm 1]
theorem dput_new {K α : Type} [DecidableEq K] {l : List (K × α)} {k : K} {v : α} (h : k ∉ l.map (·.1)) : dput l k v = l ++ [(k, v)] := by
  unfold dput
  rw [if_neg]
  intro q
  rw [List.any_eq_true] at q
  obtain ⟨x, hx, e⟩ := q
  exact h (by rw [← of_decide_eq_true e]; exact List.mem_map_of_mem hx)
theorem dget_none {K α : Type} [DecidableEq K] {l : List (K × α)} {k : K} : dget l k = none ↔ k ∉ l.map (·.1) := by
  unfold dget
  rw [Option.map_eq_none_iff, List.find?_eq_none]
  simp only [decide_eq_true_eq, List.mem_map, not_exists, not_and]
theorem dget_mem {K α : Type} [DecidableEq K] {l : List (K × α)} {k : K} {v : α} (h : dget l k = some v) : (k, v) ∈ l := by
  unfold dget at h
  obtain ⟨x, hx, rfl⟩ := Option.map_eq_some_iff.mp h
  have := List.find?_some hx
  have e : x.1 = k := of_decide_eq_true this
  subst e
  exact List.mem_of_find?_eq_some hx
theorem dget_snoc {K α : Type} [DecidableEq K] {l : List (K × α)} {k : K} {v : α} (h : k ∉ l.map (·.1)) : dget (l ++ [(k, v)]) k = some v := by
  have := dget_none.mpr h
  unfold dget at this ⊢
  rw [List.find?_append, Option.map_eq_none_iff.mp this]
  simp
theorem idxR_none : ∀ {r : Rw} {n : Nat} {x : Str}, idxR n r x = none ↔ x ∉ r.map (·.1)
  | [], n, x => by simp [idxR]
  | (k, f) :: r, n, x => by
    unfold idxR
    by_cases h : k = x
    · simp [h]
    · rw [if_neg h, idxR_none (r := r)]
      simp only [List.map_cons, List.mem_cons, not_or]
      exact ⟨fun q => ⟨fun e => h e.symm, q⟩, fun q => q.2⟩
end
section
set_option linter.unusedSimpArgs false
section
variable {σ : H} {c f c' f' k k' e : Nat} {a a' : Addr} {v : V} {l : List V}
theorem setF_at : (σ.setF c a f v).fld c a f = some v := if_pos ⟨rfl, rfl, rfl⟩
theorem setF_f (h : f' ≠ f) : (σ.setF c a f v).fld c' a' f' = σ.fld c' a' f' := if_neg fun z => h z.2.2
theorem setF_a (h : a' ≠ a) : (σ.setF c a f v).fld c' a' f' = σ.fld c' a' f' := if_neg fun z => h z.2.1
theorem setF_c (h : c' ≠ c) : (σ.setF c a f v).fld c' a' f' = σ.fld c' a' f' := if_neg fun z => h z.1
theorem setF_al (h : a' ≠ a) : (σ.setF c a f v).fld c' a' = σ.fld c' a' := funext fun _ => if_neg fun z => h z.2.1
theorem setF_cl (h : c' ≠ c) : (σ.setF c a f v).fld c' = σ.fld c' := funext fun _ => funext fun _ => if_neg fun z => h z.1
theorem newC_at : (σ.newC c a).fld c a = fun _ => none := if_pos ⟨rfl, rfl⟩
theorem newC_al (h : a' ≠ a) : (σ.newC c a).fld c' a' = σ.fld c' a' := if_neg fun z => h z.2
theorem newC_cl (h : c' ≠ c) : (σ.newC c a).fld c' = σ.fld c' := funext fun _ => if_neg fun z => h z.1
theorem setL_at : (σ.setL k a l).lst k a = l := if_pos ⟨rfl, rfl⟩
theorem setL_a (h : a' ≠ a) : (σ.setL k a l).lst k' a' = σ.lst k' a' := if_neg fun z => h z.2
theorem setL_k (h : k' ≠ k) : (σ.setL k a l).lst k' a' = σ.lst k' a' := if_neg fun z => h z.1
theorem setL_kl (h : k' ≠ k) : (σ.setL k a l).lst k' = σ.lst k' := funext fun _ => if_neg fun z => h z.1
theorem newL_at : (σ.newL k a l).lst k a = l := if_pos ⟨rfl, rfl⟩
theorem newL_a (h : a' ≠ a) : (σ.newL k a l).lst k' a' = σ.lst k' a' := if_neg fun z => h z.2
theorem newL_k (h : k' ≠ k) : (σ.newL k a l).lst k' a' = σ.lst k' a' := if_neg fun z => h z.1
theorem newL_kl (h : k' ≠ k) : (σ.newL k a l).lst k' = σ.lst k' := funext fun _ => if_neg fun z => h z.1
theorem newL_ka (h : ¬ (k' = k ∧ a' = a)) : (σ.newL k a l).lst k' a' = σ.lst k' a' := if_neg h
theorem setL_ka (h : ¬ (k' = k ∧ a' = a)) : (σ.setL k a l).lst k' a' = σ.lst k' a' := if_neg h
variable {d : List (Str × V)} {di : List (Int × V)} {dt : List ((Str × Int) × V)}
theorem setS_at : (σ.setS k a d e).dS k a = (d, e) := if_pos ⟨rfl, rfl⟩
theorem setS_a (h : a' ≠ a) : (σ.setS k a d e).dS k' a' = σ.dS k' a' := if_neg fun z => h z.2
theorem setS_kl (h : k' ≠ k) : (σ.setS k a d e).dS k' = σ.dS k' := funext fun _ => if_neg fun z => h z.1
theorem newS_at : (σ.newS k a d e).dS k a = (d, e) := if_pos ⟨rfl, rfl⟩
theorem newS_a (h : a' ≠ a) : (σ.newS k a d e).dS k' a' = σ.dS k' a' := if_neg fun z => h z.2
theorem newS_kl (h : k' ≠ k) : (σ.newS k a d e).dS k' = σ.dS k' := funext fun _ => if_neg fun z => h z.1
theorem setI_at : (σ.setI k a di).dI k a = di := if_pos ⟨rfl, rfl⟩
theorem setT_at : (σ.setT k a dt).dT k a = dt := if_pos ⟨rfl, rfl⟩
theorem setT_a (h : a' ≠ a) : (σ.setT k a dt).dT k' a' = σ.dT k' a' := if_neg fun z => h z.2
end
noncomputable def H.setFs (c : Nat) (a : Addr) : Nat → List V → H → H
  | _, [], σ => σ
  | i, v :: r, σ => H.setFs c a (i + 1) r (σ.setF c a i v)
theorem setFs_fld {c : Nat} {a : Addr} {c' : Nat} {a' : Addr} {f : Nat} : ∀ (l : List V) (i : Nat) (σ : H), (H.setFs c a i l σ).fld c' a' f = if c' = c ∧ a' = a ∧ i ≤ f ∧ f < i + l.length then l[f - i]? else σ.fld c' a' f
  | [], i, σ => (if_neg fun z => Nat.lt_irrefl _ (Nat.lt_of_le_of_lt z.2.2.1 z.2.2.2)).symm
  | v :: l, i, σ => by
    show (H.setFs c a (i + 1) l (σ.setF c a i v)).fld c' a' f = _
    rw [setFs_fld l (i + 1)]
    by_cases h : c' = c ∧ a' = a
    · by_cases e : f = i
      · subst e
        rw [if_neg (fun z => by omega), if_pos ⟨h.1, h.2, Nat.le_refl _, by rw [List.length_cons]; exact pa12⟩, Nat.sub_self, h.1, h.2]
        exact setF_at
      · rw [setF_f e, List.length_cons]
        by_cases g : i + 1 ≤ f ∧ f < i + 1 + l.length
        · rw [if_pos ⟨h.1, h.2, g⟩, if_pos ⟨h.1, h.2, by omega, by omega⟩, show f - i = (f - (i + 1)) + 1 by omega]; rfl
        · rw [if_neg fun z => g z.2.2, if_neg fun z => g (by omega)]
    · rw [if_neg fun z => h ⟨z.1, z.2.1⟩, if_neg fun z => h ⟨z.1, z.2.1⟩]
      exact if_neg fun z => h ⟨z.1, z.2.1⟩
theorem newC_fs {σ : H} {c : Nat} {a : Addr} {l : List V} {c' : Nat} {a' : Addr} : (H.setFs c a 0 l (σ.newC c a)).fld c' a' = if c' = c ∧ a' = a then fun f => l[f]? else σ.fld c' a' := by
  funext f
  rw [setFs_fld]
  by_cases h : c' = c ∧ a' = a
  · rw [if_pos h, h.1, h.2, newC_at]
    by_cases g : f < l.length
    · rw [if_pos ⟨rfl, rfl, Nat.zero_le _, by omega⟩]; rfl
    · rw [if_neg fun z => g (by omega), List.getElem?_eq_none (by exact pb7)]
  · rw [if_neg h, if_neg fun z => h ⟨z.1, z.2.1⟩]
    show (if c' = c ∧ a' = a then fun _ => none else σ.fld c' a') f = _
    rw [if_neg h]
theorem drop_mid {α β : Type} {pre r : List α} {k : α} {f : α → β} : List.drop (pre.length + 1) ((pre ++ k :: r).map f) = r.map f := by
  rw [List.map_append, List.drop_append, List.drop_eq_nil_of_le (by rw [List.length_map]; exact Nat.le_succ _), List.length_map, Nat.add_sub_cancel_left]
  rfl
def Ev (t : E1) (ls : Ls) (σ : H) (v : V) : Prop := ∀ Q : V → H → Prop, Q v σ → t ls σ Q
def Et (t : T1) (ls : Ls) (σ : H) (b : Bool) : Prop := ∀ Q : Bool → H → Prop, Q b σ → t ls σ Q
def El (t : Es) (ls : Ls) (σ : H) (vs : List V) : Prop := ∀ Q : List V → H → Prop, Q vs σ → t ls σ Q
noncomputable def vsv (a i : V) : Option V := match a, i with
  | .p2 a b, .int j => if j = 0 then some a else if j = 1 then some b else none
  | .p3 a b c, .int j => if j = 0 then some a else if j = 1 then some b else if j = 2 then some c else none
  | _, _ => none
section
variable {ls : Ls} {σ : H} {i f : Nat} {t t1 t2 t3 o : E1} {c c1 : T1} {cs : List T1} {a b : E1} {v w v1 v2 v3 v4 : V} {k : Nat} {x : Addr} {ts : Es} {vs : List V} {y z : Str} {n m l : Int} {bb b2 : Bool}
theorem Ev.con : Ev (pK v) ls σ v := fun _ q => q
theorem Ev.var (h : ls[i]? = some (some v)) : Ev (pV i) ls σ v := fun Q q => by unfold pV; rw [h]; exact q
theorem Ev.fld {c : Nat} (h : Ev t ls σ (.ref (.inst c) x)) (e : σ.fld c x f = some w) : Ev (pF t f) ls σ w := fun Q q => h _ (by show ob _ _; rw [e]; exact q)
theorem Ev.ift (h : Et c ls σ true) (e : Ev a ls σ v) : Ev (pIf c a b) ls σ v := fun Q q => h _ ⟨fun _ => e _ q, fun z => (nomatch z)⟩
theorem Ev.iff (h : Et c ls σ false) (e : Ev b ls σ v) : Ev (pIf c a b) ls σ v := fun Q q => h _ ⟨fun z => (nomatch z), fun _ => e _ q⟩
theorem El.nil : El eNil ls σ [] := fun _ q => q
theorem El.cons (h : Ev t ls σ v) (r : El ts ls σ vs) : El (eCons t ts) ls σ (v :: vs) := fun _ q => h _ (r _ q)
theorem Ev.tup2 (h : El ts ls σ [v1, v2]) : Ev (pTup ts) ls σ (.p2 v1 v2) := fun _ q => h _ q
theorem Ev.tup3 (h : El ts ls σ [v1, v2, v3]) : Ev (pTup ts) ls σ (.p3 v1 v2 v3) := fun _ q => h _ q
theorem Ev.tup4 (h : El ts ls σ [v1, v2, v3, v4]) : Ev (pTup ts) ls σ (.p4 v1 v2 v3 v4) := fun _ q => h _ q
theorem Ev.psub (h : Ev t ls σ v) (g : Ev t1 ls σ v1) (e : vsv v v1 = some w) : Ev (pSub t t1) ls σ w := fun Q q => h _ (g _ (by
  unfold vsv at e
  split at e
  · split at e
    · rename_i z; cases e; subst z; exact q
    · split at e
      · rename_i z; cases e; subst z; exact ⟨rfl, q⟩
      · cases e
  · split at e
    · rename_i z; cases e; subst z; exact q
    · split at e
      · rename_i z; cases e; subst z; exact q
      · split at e
        · rename_i z; cases e; subst z; exact ⟨rfl, q⟩
        · cases e
  · cases e))
theorem Ev.subL (h : Ev t ls σ (.ref (.lst k) x)) (g : Ev t1 ls σ (.int n)) (z : 0 ≤ n ∧ n < 1000) (e : (σ.lst k x)[n.toNat]? = some w) : Ev (pSub t t1) ls σ w := fun _ q => h _ (g _ ⟨z, w, e, q⟩)
theorem Ev.subS (h : Ev t ls σ (.ref (.dS k) x)) (g : Ev t1 ls σ (.str y)) (e : dget (σ.dS k x).1 y = some w) : Ev (pSub t t1) ls σ w := fun _ q => h _ (g _ ⟨w, e, q⟩)
theorem Ev.subI (h : Ev t ls σ (.ref (.dI k) x)) (g : Ev t1 ls σ (.int n)) (e : dget (σ.dI k x) n = some w) : Ev (pSub t t1) ls σ w := fun _ q => h _ (g _ ⟨w, e, q⟩)
theorem Ev.subT (h : Ev t ls σ (.ref (.dT k) x)) (g : Ev t1 ls σ (.p2 (.str y) (.int n))) (e : dget (σ.dT k x) (y, n) = some w) : Ev (pSub t t1) ls σ w := fun _ q => h _ (g _ ⟨w, e, q⟩)
theorem Ev.get (h : Ev t ls σ (.ref (.dS k) x)) (g : Ev t1 ls σ (.str y)) (e : (dget (σ.dS k x).1 y).getD .none = w) : Ev (pGet t t1) ls σ w := fun Q q => h _ (g _ (by show Q _ σ; rw [e]; exact q))
theorem Ev.add (h : Ev t ls σ (.int n)) (g : Ev t1 ls σ (.int m)) : Ev (pBin fAdd t t1) ls σ (.int (n + m)) := fun _ q => h _ (g _ q)
theorem Ev.addS (h : Ev t ls σ (.str y)) (g : Ev t1 ls σ (.str z)) (e : y.length + z.length ≤ 1000) : Ev (pBin fAdd t t1) ls σ (.str (y ++ z)) := fun _ q => h _ (g _ ⟨e, q⟩)
theorem Ev.sub (h : Ev t ls σ (.int n)) (g : Ev t1 ls σ (.int m)) : Ev (pBin fSub t t1) ls σ (.int (n - m)) := fun _ q => h _ (g _ q)
theorem Ev.mul (h : Ev t ls σ (.int n)) (g : Ev t1 ls σ (.int m)) (z : 0 ≤ n ∧ n < 2 ^ 60 ∧ 0 ≤ m ∧ m < 2 ^ 60) : Ev (pBin fMul t t1) ls σ (.int (n * m)) := fun _ q => h _ (g _ ⟨z, q⟩)
theorem Ev.div (h : Ev t ls σ (.int n)) (g : Ev t1 ls σ (.int m)) (z : 0 ≤ n ∧ n < 2 ^ 60 ∧ 0 < m ∧ m < 2 ^ 60) : Ev (pBin fDiv t t1) ls σ (.int (n.fdiv m)) := fun _ q => h _ (g _ ⟨z, q⟩)
theorem Ev.mod (h : Ev t ls σ (.int n)) (g : Ev t1 ls σ (.int m)) (z : m ≠ 0) : Ev (pBin fMod t t1) ls σ (.int (n.fmod m)) := fun _ q => h _ (g _ ⟨z, q⟩)
theorem Ev.mod2 (h : Ev t ls σ (.int n)) : Ev (pBin fMod t (pK (.int 2))) ls σ (.int (n % 2)) := fun Q q => h _ ⟨by decide, by rw [Int.fmod_eq_emod_of_nonneg n (by decide)]; exact q⟩
theorem Ev.band (h : Ev t ls σ (.int n)) (g : Ev t1 ls σ (.int m)) : Ev (pBin fAnd t t1) ls σ (.int (Builtin.bitAnd n m)) := fun _ q => h _ (g _ q)
theorem Ev.len (h : Ev t ls σ (.ref (.lst k) x)) (z : (σ.lst k x).length ≤ 1000) : Ev (pBi fLen t) ls σ (.int (σ.lst k x).length) := fun _ q => h _ ⟨z, q⟩
theorem Ev.repr (h : Ev t ls σ (.bool bb)) : Ev (pBi fRepr t) ls σ (.str (if bb = true then Str.ofString "True" else Str.ofString "False")) := fun _ q => h _ q
theorem Ev.str (h : Ev t ls σ (.int n)) (z : 0 ≤ n ∧ n < 1000) : Ev (pBi fStr t) ls σ (.str (Str.ofString (toString n))) := fun _ q => h _ ⟨z, q⟩
theorem Ev.toInt (h : Ev t ls σ (.int n)) : Ev (pBi fInt t) ls σ (.int n) := fun _ q => h _ q
theorem Ev.cis (h : Ev t ls σ v) (e : v.isN = bb) : Ev (pCmp fIs t (pK .none)) ls σ (.bool bb) := e ▸ fun _ q => h _ q
theorem Ev.cge (h : Ev t ls σ (.int n)) (g : Ev t1 ls σ (.int m)) : Ev (pCmp fGe t t1) ls σ (.bool (decide (m ≤ n))) := fun _ q => h _ (g _ q)
theorem Ev.ceq (h : Ev t ls σ v) (g : Ev t1 ls σ w) (hv : v.pl 4 = true) (hw : w.pl 4 = true) : Ev (pCmp fEq t t1) ls σ (.bool (decide (v = w))) := fun Q q => h _ (g _ (by show fEq _ _ _ _; rw [fEq_pl hv hw]; exact q))
theorem Ev.ceqL {k' : Nat} {x' : Addr} (h : Ev t ls σ (.ref (.lst k) x)) (g : Ev t1 ls σ (.ref (.lst k') x')) (hv : (σ.lst k x).all (V.pl 4) = true) (hw : (σ.lst k' x').all (V.pl 4) = true) : Ev (pCmp fEq t t1) ls σ (.bool (decide (σ.lst k x = σ.lst k' x'))) := fun Q q => h _ (g _ ⟨hv, hw, q⟩)
theorem Ev.ceqI (h : Ev t ls σ (.int n)) (g : Ev t1 ls σ (.int m)) (e : decide (n = m) = bb) : Ev (pCmp fEq t t1) ls σ (.bool bb) := fun Q q => h _ (g _ (by show fEq _ _ _ _; rw [fEq_int, e]; exact q))
theorem Ev.not1 (h : Ev t ls σ (.bool false)) : Ev (pNot t) ls σ (.bool true) := fun _ q => h _ q
theorem Ev.not0 (h : Ev t ls σ (.bool true)) : Ev (pNot t) ls σ (.bool false) := fun _ q => h _ q
theorem Ev.ort (h : Ev a ls σ (.bool true)) : Ev (pOr a b) ls σ (.bool true) := fun _ q => h _ ⟨fun _ => q, fun z => (nomatch z)⟩
theorem Ev.orf (h : Ev a ls σ (.bool false)) (g : Ev b ls σ v) : Ev (pOr a b) ls σ v := fun _ q => h _ ⟨fun z => (nomatch z), fun _ => g _ q⟩
theorem Ev.andt (h : Ev a ls σ (.bool true)) (g : Ev b ls σ v) : Ev (pAnd a b) ls σ v := fun _ q => h _ ⟨fun _ => g _ q, fun z => (nomatch z)⟩
theorem Et.tru : Et tTrue ls σ true := fun _ q => q
theorem Et.val (h : Ev t ls σ (.bool bb)) : Et (tVal t) ls σ bb := fun _ q => h _ q
theorem Et.val0 (h : Ev t ls σ (.int n)) (e : n = 0) : Et (tVal t) ls σ false := fun Q q => h _ (by show Q (decide (n ≠ 0)) σ; rw [decide_eq_false (fun z => z e)]; exact q)
theorem Et.val1 (h : Ev t ls σ (.int n)) (e : n ≠ 0) : Et (tVal t) ls σ true := fun Q q => h _ (by show Q (decide (n ≠ 0)) σ; rw [decide_eq_true e]; exact q)
theorem Et.not1 (h : Et c ls σ false) : Et (tNot c) ls σ true := fun _ q => h _ q
theorem Et.not0 (h : Et c ls σ true) : Et (tNot c) ls σ false := fun _ q => h _ q
theorem Et.a0 : Et (tAnd []) ls σ true := fun _ q => q
theorem Et.at (h : Et c ls σ true) (r : Et (tAnd cs) ls σ bb) : Et (tAnd (c :: cs)) ls σ bb := fun _ q => h _ ⟨fun _ => r _ q, fun z => (nomatch z)⟩
theorem Et.af (h : Et c ls σ false) : Et (tAnd (c :: cs)) ls σ false := fun _ q => h _ ⟨fun z => (nomatch z), fun _ => q⟩
theorem Et.o0 : Et (tOr []) ls σ false := fun _ q => q
theorem Et.of (h : Et c ls σ false) (r : Et (tOr cs) ls σ bb) : Et (tOr (c :: cs)) ls σ bb := fun _ q => h _ ⟨fun z => (nomatch z), fun _ => r _ q⟩
theorem Et.ot (h : Et c ls σ true) : Et (tOr (c :: cs)) ls σ true := fun _ q => h _ ⟨fun _ => q, fun z => (nomatch z)⟩
theorem Et.is (h : Ev t ls σ v) (e : v.isN = bb) : Et (tCmp fIs t (pK .none)) ls σ bb := e ▸ fun _ q => h _ q
theorem Et.isn (h : Ev t ls σ v) (e : (!v.isN) = bb) : Et (tCmp fIsNot t (pK .none)) ls σ bb := e ▸ fun _ q => h _ q
theorem Et.ge (h1 : Ev t1 ls σ (.int n)) (h2 : Ev t2 ls σ (.int m)) (e : decide (m ≤ n) = bb) : Et (tCmp fGe t1 t2) ls σ bb := e ▸ fun Q q => h1 _ (h2 _ q)
theorem Et.gt (h1 : Ev t1 ls σ (.int n)) (h2 : Ev t2 ls σ (.int m)) (e : decide (m < n) = bb) : Et (tCmp fGt t1 t2) ls σ bb := e ▸ fun Q q => h1 _ (h2 _ q)
theorem Et.lt (h1 : Ev t1 ls σ (.int n)) (h2 : Ev t2 ls σ (.int m)) (e : decide (n < m) = bb) : Et (tCmp fLt t1 t2) ls σ bb := e ▸ fun Q q => h1 _ (h2 _ q)
theorem Et.eqv (h : Ev t1 ls σ v) (g : Ev t2 ls σ w) (hv : v.pl 4 = true) (hw : w.pl 4 = true) (e : decide (v = w) = bb) : Et (tCmp fEq t1 t2) ls σ bb := e ▸ fun Q q => h _ (g _ (by show fEq _ _ _ _; rw [fEq_pl hv hw]; exact q))
theorem Et.nev (h : Ev t1 ls σ v) (g : Ev t2 ls σ w) (hv : v.pl 4 = true) (hw : w.pl 4 = true) (e : (!decide (v = w)) = bb) : Et (tCmp fNe t1 t2) ls σ bb := e ▸ fun Q q => h _ (g _ (by show fEq _ _ _ _; rw [fEq_pl hv hw]; exact q))
theorem Et.eqI (h : Ev t1 ls σ (.int n)) (g : Ev t2 ls σ (.int m)) (e : decide (n = m) = bb) : Et (tCmp fEq t1 t2) ls σ bb := e ▸ fun Q q => h _ (g _ (by show fEq _ _ _ _; rw [fEq_int]; exact q))
theorem Et.neI (h1 : Ev t1 ls σ (.int n)) (h2 : Ev t2 ls σ (.int m)) (e : (!decide (n = m)) = bb) : Et (tCmp fNe t1 t2) ls σ bb := e ▸ fun Q q => h1 _ (h2 _ (by show fNe _ _ _ _; rw [fNe_def, fEq_int]; exact q))
theorem Et.niI (h1 : Ev t1 ls σ (.int n)) (h2 : Ev t2 ls σ (.ref (.dI k) x)) (e : (dget (σ.dI k x) n).isNone = bb) : Et (tCmp fNotIn t1 t2) ls σ bb := e ▸ fun Q q => h1 _ (h2 _ q)
theorem Et.niT (h1 : Ev t1 ls σ (.p2 (.str y) (.int n))) (h2 : Ev t2 ls σ (.ref (.dT k) x)) (e : (dget (σ.dT k x) (y, n)).isNone = bb) : Et (tCmp fNotIn t1 t2) ls σ bb := e ▸ fun Q q => h1 _ (h2 _ q)
theorem Ev.cast (h : Ev t ls σ v) (e : v = w) : Ev t ls σ w := e ▸ h
inductive SB (σ : H) : V → V → V → Prop
  | l {k : Nat} {x : Addr} {n : Int} {w : V} (z : 0 ≤ n ∧ n < 1000) (e : (σ.lst k x)[n.toNat]? = some w) : SB σ (.ref (.lst k) x) (.int n) w
  | s {k : Nat} {x : Addr} {y : Str} {w : V} (e : dget (σ.dS k x).1 y = some w) : SB σ (.ref (.dS k) x) (.str y) w
  | p {v v1 w : V} (e : vsv v v1 = some w) : SB σ v v1 w
theorem Ev.sb (h : Ev t ls σ v) (g : Ev t1 ls σ v1) (e : SB σ v v1 w) : Ev (pSub t t1) ls σ w := by
  cases e with
  | l z e => exact .subL h g z e
  | s e => exact .subS h g e
  | p e => exact .psub h g e
inductive VT : V → Bool → Prop
  | b {a c : Bool} (e : a = c) : VT (.bool a) c
  | z {n : Int} (e : n = 0) : VT (.int n) false
  | nz {n : Int} (e : n ≠ 0) : VT (.int n) true
theorem Et.vl (h : Ev t ls σ v) (e : VT v bb) : Et (tVal t) ls σ bb := by
  cases e with
  | b e => exact e ▸ .val h
  | z e => exact .val0 h e
  | nz e => exact .val1 h e
theorem nb_t {p : Prop} [Decidable p] (h : ¬ p) : (!decide p) = true := by rw [decide_eq_false h]; rfl
theorem nb_f {p : Prop} [Decidable p] (h : p) : (!decide p) = false := by rw [decide_eq_true h]; rfl
variable {Q : Fl → Ls → H → Prop} {r s : S1} {A B : S1} {F : F1} {tb : List (Nat × F1)} {C : V → H → Prop} {D : Bool → H → Prop}
@[reducible] def KS (r : S1) (Q : Fl → Ls → H → Prop) (f : Fl) (ls : Ls) (σ : H) : Prop := match f with | .next => r ls σ Q | .ret v => Q (.ret v) ls σ
@[reducible] def KSet (i : Nat) (r : S1) (ls : Ls) (Q : Fl → Ls → H → Prop) (v : V) (σ : H) : Prop := r (ls.set i (some v)) σ Q
@[reducible] def KE (r : S1) (ls : Ls) (Q : Fl → Ls → H → Prop) (_ : V) (σ : H) : Prop := r ls σ Q
def KI (A B r : S1) (ls : Ls) (Q : Fl → Ls → H → Prop) (x : Bool) (σ : H) : Prop := bsplit x (sCons A r ls σ Q) (sCons B r ls σ Q)
@[reducible] def kPut (o : E1) (f : Nat) (r : S1) (ls : Ls) (Q : Fl → Ls → H → Prop) (v : V) (σ : H) : Prop := o ls σ fun o σ => match o with
  | .ref (.inst c) a => r ls (σ.setF c a f v) Q
  | _ => False
@[reducible] def QF (Q : V → H → Prop) (fl : Fl) (_ : Ls) (σ : H) : Prop := Q (match fl with | .ret v => v | .next => .none) σ
theorem q_set (h : Ev t ls σ v) (q : r (ls.set i (some v)) σ Q) : sCons (sSet i t) r ls σ Q := h _ q
theorem q_setC (q : t ls σ (KSet i r ls Q)) : sCons (sSet i t) r ls σ Q := q
theorem q_putF {c : Nat} (h : Ev t ls σ v) (g : Ev o ls σ (.ref (.inst c) x)) (q : r ls (σ.setF c x f v) Q) : sCons (sPutF t o f) r ls σ Q := h _ (g _ q)
theorem q_putFC (q : t ls σ (kPut o f r ls Q)) : sCons (sPutF t o f) r ls σ Q := q
theorem k_put {c : Nat} (h : Ev o ls σ (.ref (.inst c) x)) (q : r ls (σ.setF c x f v) Q) : kPut o f r ls Q v σ := h _ q
theorem q_ift (h : Et c ls σ true) (q : sCons A r ls σ Q) : sCons (sIf c A B) r ls σ Q := h _ ⟨fun _ => q, fun z => (nomatch z)⟩
theorem q_iff (h : Et c ls σ false) (q : sCons B r ls σ Q) : sCons (sIf c A B) r ls σ Q := h _ ⟨fun z => (nomatch z), fun _ => q⟩
theorem q_ifC (q : c ls σ (KI A B r ls Q)) : sCons (sIf c A B) r ls σ Q := q
theorem k_ift (q : sCons A r ls σ Q) : KI A B r ls Q true σ := ⟨fun _ => q, fun z => (nomatch z)⟩
theorem k_iff (q : sCons B r ls σ Q) : KI A B r ls Q false σ := ⟨fun z => (nomatch z), fun _ => q⟩
theorem q_nil (q : r ls σ Q) : sCons sNil r ls σ Q := q
theorem q_cons (q : sCons s (sCons A r) ls σ Q) : sCons (sCons s A) r ls σ Q := q
theorem q_ret (h : Ev t ls σ v) (q : Q (.ret v) ls σ) : sCons (sRet t) r ls σ Q := h _ q
theorem q_expr (q : t ls σ (KE r ls Q)) : sCons (sExpr t) r ls σ Q := q
theorem q_def {m k : Nat} {t : S1} {Q : V → H → Prop} (e : vs.length = m) (q : t (vs.map some ++ List.replicate k none) σ (QF Q)) : fDef m k t vs σ Q := ⟨e, q⟩
theorem q_retF {Q : V → H → Prop} (h : Ev t ls σ v) (q : Q v σ) : sCons (sRet t) r ls σ (QF Q) := h _ q
theorem q_ret0F {Q : V → H → Prop} (q : Q .none σ) : sCons sRet0 r ls σ (QF Q) := q
theorem q_retFC {Q : V → H → Prop} (q : t ls σ Q) : sCons (sRet t) r ls σ (QF Q) := q
theorem q_endF {Q : V → H → Prop} (q : Q .none σ) : sNil ls σ (QF Q) := q
theorem q_iffC (h : Et c ls σ false) (q : b ls σ (KSet i r ls Q)) : sCons (sSet i (pIf c a b)) r ls σ Q := h _ ⟨fun z => (nomatch z), fun _ => q⟩
theorem e_val (h : Ev t ls σ v) (q : C v σ) : t ls σ C := h _ q
theorem e_meth {c : Nat} (h : Ev o ls σ (.ref (.inst c) x)) (e : tb.lookup c = some F) (g : El ts ls σ vs) (q : F (.ref (.inst c) x :: vs) σ C) : pMeth tb o ts ls σ C := h _ (by show ob _ _; rw [e]; exact g _ ⟨trivial, q⟩)
theorem e_methC {c : Nat} (h : Ev o ls σ (.ref (.inst c) x)) (e : tb.lookup c = some F) (q : ts ls σ fun vs σ => cal F (.ref (.inst c) x :: vs) σ C) : pMeth tb o ts ls σ C := h _ (by show ob _ _; rw [e]; exact q)
theorem e_call (g : El ts ls σ vs) (q : F vs σ C) : pCall F ts ls σ C := g _ ⟨trivial, q⟩
theorem e_callC (q : ts ls σ fun vs σ => cal F vs σ C) : pCall F ts ls σ C := q
theorem el_cons {K : List V → H → Prop} (q : t ls σ fun v σ => ts ls σ fun vs σ => K (v :: vs) σ) : eCons t ts ls σ K := q
theorem el_val {K : List V → H → Prop} (h : El ts ls σ vs) (q : K vs σ) : ts ls σ K := h _ q
theorem e_cal (q : F vs σ C) : cal F vs σ C := ⟨trivial, q⟩
theorem e_new {c : Nat} (q : ∀ a, σ.nxt ≤ a → F (.ref (.inst c) a :: vs) (σ.newC c a) fun v σ => v = .none ∧ C (.ref (.inst c) a) σ) : fNew c F vs σ C := q
theorem e_list (h : El ts ls σ vs) (z : vs.length ≤ 1000) (q : ∀ a, σ.nxt ≤ a → C (.ref (.lst k) a) (σ.newL k a vs)) : pList k ts ls σ C := h _ ⟨z, q⟩
theorem e_append (h : Ev o ls σ (.ref (.lst k) x)) (g : Ev t ls σ v) (z : (σ.lst k x).length ≤ 1000) (q : C .none (σ.setL k x (σ.lst k x ++ [v]))) : pAppend o t ls σ C := h _ (g _ ⟨z, q⟩)
theorem e_rev (h : Ev o ls σ (.ref (.lst k) x)) (z : (σ.lst k x).length ≤ 1000) (q : C .none (σ.setL k x (σ.lst k x).reverse)) : pRev o ls σ C := h _ ⟨z, q⟩
theorem e_pop (h : Ev o ls σ (.ref (.lst k) x)) (z : (σ.lst k x).length ≤ 1000) (e : (σ.lst k x).getLast? = some w) (q : C w (σ.setL k x (σ.lst k x).dropLast)) : pPop o ls σ C := h _ ⟨z, w, e, q⟩
theorem e_pop0 {l : List V} (h : Ev o ls σ (.ref (.lst k) x)) (z : (σ.lst k x).length ≤ 1000) (e : σ.lst k x = w :: l) (q : C w (σ.setL k x l)) : pPop0 o (pK (.int 0)) ls σ C := h _ ⟨rfl, z, w, l, e, q⟩
theorem e_popD (h : Ev o ls σ (.ref (.dS k) x)) (g : Ev t ls σ (.str y)) (j : Ev t1 ls σ v) (z : (σ.dS k x).1.length ≤ 1000) (q : ∀ e, C ((dget (σ.dS k x).1 y).getD v) (σ.setS k x (ddel (σ.dS k x).1 y) e)) : pPopD o t t1 ls σ C := h _ (g _ (j _ ⟨z, q⟩))
@[reducible] def KGet (e : E1) (ls : Ls) (C : V → H → Prop) (v : V) (σ : H) : Prop := match v with
  | .ref (.dS k) a => e ls σ fun y σ => match y with | .str y => C ((dget (σ.dS k a).1 y).getD .none) σ | _ => False
  | _ => False
theorem e_getC (q : o ls σ (KGet t ls C)) : pGet o t ls σ C := q
theorem k_get (g : Ev t ls σ (.str y)) (q : C ((dget (σ.dS k x).1 y).getD .none) σ) : KGet t ls C (.ref (.dS k) x) σ := g _ q
theorem k_dict {kd : Nat} {ps : List (Str × V)} (e : σ.lst k x = ps.map pairV) (z : ps.length ≤ 1000) (q : ∀ c e, σ.nxt ≤ c → C (.ref (.dS kd) c) (σ.newS kd c (ps.foldl (fun acc p => dput acc p.1 p.2) []) e)) : fDict kd (.ref (.lst k) x) σ C := ⟨ps, e, z, q⟩
theorem e_dict0S (q : ∀ a e, σ.nxt ≤ a → C (.ref (.dS k) a) (σ.newS k a [] e)) : pDict0S k ls σ C := q
theorem e_dict0I (q : ∀ a, σ.nxt ≤ a → C (.ref (.dI k) a) (σ.newI k a [])) : pDict0I k ls σ C := q
theorem e_dict0T (q : ∀ a, σ.nxt ≤ a → C (.ref (.dT k) a) (σ.newT k a [])) : pDict0T k ls σ C := q
theorem e_ift (h : Et c ls σ true) (q : a ls σ C) : pIf c a b ls σ C := h _ ⟨fun _ => q, fun z => (nomatch z)⟩
theorem e_iff (h : Et c ls σ false) (q : b ls σ C) : pIf c a b ls σ C := h _ ⟨fun z => (nomatch z), fun _ => q⟩
theorem e_if (q : c ls σ fun x σ => bsplit x (a ls σ C) (b ls σ C)) : pIf c a b ls σ C := q
@[reducible] def KFld (f : Nat) (C : V → H → Prop) (v : V) (σ : H) : Prop := match v with | .ref (.inst c) a => ob (σ.fld c a f) fun w => C w σ | _ => False
theorem e_fld (q : t ls σ (KFld f C)) : pF t f ls σ C := q
theorem k_fld {c : Nat} (e : σ.fld c x f = some w) (q : C w σ) : KFld f C (.ref (.inst c) x) σ := by
  show ob _ _
  rw [e]; exact q
theorem k_addL {k' : Nat} {x' : Addr} (z : (σ.lst k x).length + (σ.lst k' x').length ≤ 1000) (q : ∀ c, σ.nxt ≤ c → C (.ref (.lst k) c) (σ.newL k c (σ.lst k x ++ σ.lst k' x'))) : fAdd (.ref (.lst k) x) (.ref (.lst k') x') σ C := ⟨z, q⟩
@[reducible] def KSub (t1 : E1) (ls : Ls) (C : V → H → Prop) (a : V) (σ : H) : Prop := t1 ls σ fun b σ => vsub a b σ C
theorem e_sub (q : t ls σ (KSub t1 ls C)) : pSub t t1 ls σ C := q
theorem k_subL (g : Ev t1 ls σ (.int n)) (z : 0 ≤ n ∧ n < 1000) (e : (σ.lst k x)[n.toNat]? = some w) (q : C w σ) : KSub t1 ls C (.ref (.lst k) x) σ := g _ ⟨z, w, e, q⟩
theorem k_p21 (q : C v2 σ) : KSub (pK (.int 1)) ls C (.p2 v1 v2) σ := ⟨rfl, q⟩
theorem e_bin {g : V → V → H → (V → H → Prop) → Prop} (q : t ls σ fun a σ => t1 ls σ fun b σ => g a b σ C) : pBin g t t1 ls σ C := q
@[reducible] def KTup (C : V → H → Prop) (vs : List V) (σ : H) : Prop := ob (tupV vs) fun v => C v σ
theorem e_tup (q : ts ls σ (KTup C)) : pTup ts ls σ C := q
theorem k_tup2 (q : C (.p2 v1 v2) σ) : KTup C [v1, v2] σ := q
theorem k_tup3 (q : C (.p3 v1 v2 v3) σ) : KTup C [v1, v2, v3] σ := q
theorem el_consV {K : List V → H → Prop} (h : Ev t ls σ v) (q : ts ls σ fun vs σ => K (v :: vs) σ) : eCons t ts ls σ K := h _ q
theorem e_bi {g : V → H → (V → H → Prop) → Prop} (q : t ls σ fun a σ => g a σ C) : pBi g t ls σ C := q
theorem e_cmp {g : V → V → H → (Bool → H → Prop) → Prop} (q : t1 ls σ fun a σ => t2 ls σ fun b σ => g a b σ fun x σ => C (.bool x) σ) : pCmp g t1 t2 ls σ C := q
theorem e_and (q : a ls σ fun v σ => vtrue v fun x => bsplit x (b ls σ C) (C v σ)) : pAnd a b ls σ C := q
theorem k_eqL {k' : Nat} {x' : Addr} (hv : (σ.lst k x).all (V.pl 4) = true) (hw : (σ.lst k' x').all (V.pl 4) = true) (q : D (decide (σ.lst k x = σ.lst k' x')) σ) : fEq (.ref (.lst k) x) (.ref (.lst k') x') σ D := ⟨hv, hw, q⟩
theorem k_neL {k' : Nat} {x' : Addr} (hv : (σ.lst k x).all (V.pl 4) = true) (hw : (σ.lst k' x').all (V.pl 4) = true) (q : D (!decide (σ.lst k x = σ.lst k' x')) σ) : fNe (.ref (.lst k) x) (.ref (.lst k') x') σ D := ⟨hv, hw, q⟩
theorem k_ne (hv : v.pl 4 = true) (hw : w.pl 4 = true) (q : D (!decide (v = w)) σ) : fNe v w σ D := by
  show fEq _ _ _ _
  rw [fEq_pl hv hw]; exact q
theorem k_eq (hv : v.pl 4 = true) (hw : w.pl 4 = true) (q : D (decide (v = w)) σ) : fEq v w σ D := by rw [fEq_pl hv hw]; exact q
theorem k_isnB (q : D (!v.isN) σ) : (pK .none) ls σ (fun b σ => fIsNot v b σ D) := q
theorem k_mod (z : m ≠ 0) (q : C (.int (n.fmod m)) σ) : fMod (.int n) (.int m) σ C := ⟨z, q⟩
theorem k_repr (q : C (.str (if bb = true then Str.ofString "True" else Str.ofString "False")) σ) : fRepr (.bool bb) σ C := q
theorem b_t {p q : Prop} (h : p) : bsplit true p q := ⟨fun _ => h, fun z => (nomatch z)⟩
theorem b_f {p q : Prop} (h : q) : bsplit false p q := ⟨fun z => (nomatch z), fun _ => h⟩
theorem d_val (h : Et c ls σ bb) (q : D bb σ) : c ls σ D := h _ q
theorem d_is (q : t ls σ fun v σ => D v.isN σ) : tCmp fIs t (pK .none) ls σ D := q
theorem d_isn (q : t ls σ fun v σ => D (!v.isN) σ) : tCmp fIsNot t (pK .none) ls σ D := q
theorem d_cmp {g : V → V → H → (Bool → H → Prop) → Prop} (q : t1 ls σ fun a σ => t2 ls σ fun b σ => g a b σ D) : tCmp g t1 t2 ls σ D := q
theorem d_tval (q : t ls σ fun v σ => vtrue v fun b => D b σ) : tVal t ls σ D := q
theorem d_not (q : c ls σ fun b σ => D (!b) σ) : tNot c ls σ D := q
theorem d_at (h : Et c ls σ true) (q : tAnd cs ls σ D) : tAnd (c :: cs) ls σ D := h _ ⟨fun _ => q, fun z => (nomatch z)⟩
theorem d_and (q : c ls σ fun b σ => bsplit b (tAnd cs ls σ D) (D false σ)) : tAnd (c :: cs) ls σ D := q
theorem d_or (q : c ls σ fun b σ => bsplit b (D true σ) (tOr cs ls σ D)) : tOr (c :: cs) ls σ D := q
theorem d_o0 (q : D false σ) : tOr [] ls σ D := q
theorem q_putS (h : Ev t ls σ v) (g : Ev o ls σ (.ref (.dS k) x)) (j : Ev t1 ls σ (.str y)) (z : (σ.dS k x).1.length ≤ 1000) (q : ∀ e, r ls (σ.setS k x (dput (σ.dS k x).1 y v) e) Q) : sCons (sPutI t o t1) r ls σ Q := h _ (g _ (j _ ⟨z, q⟩))
theorem q_putL (h : Ev t ls σ v) (g : Ev o ls σ (.ref (.lst k) x)) (j : Ev t1 ls σ (.int n)) (z : 0 ≤ n ∧ n < 1000 ∧ n.toNat < (σ.lst k x).length) (q : r ls (σ.setL k x ((σ.lst k x).set n.toNat v)) Q) : sCons (sPutI t o t1) r ls σ Q := h _ (g _ (j _ ⟨z, q⟩))
theorem q_putT (h : Ev t ls σ v) (g : Ev o ls σ (.ref (.dT k) x)) (j : Ev t1 ls σ (.p2 (.str y) (.int n))) (z : (σ.dT k x).length ≤ 1000) (q : r ls (σ.setT k x (dput (σ.dT k x) (y, n) v)) Q) : sCons (sPutI t o t1) r ls σ Q := h _ (g _ (j _ ⟨z, q⟩))
@[reducible] def KPI (o t1 : E1) (r : S1) (ls : Ls) (Q : Fl → Ls → H → Prop) (v : V) (σ : H) : Prop := o ls σ fun a σ => t1 ls σ fun b σ => vput a b v σ fun σ => r ls σ Q
theorem q_putC (q : t ls σ (KPI o t1 r ls Q)) : sCons (sPutI t o t1) r ls σ Q := q
theorem k_putI (g : Ev o ls σ (.ref (.dI k) x)) (j : Ev t1 ls σ (.int n)) (z : (σ.dI k x).length ≤ 1000) (q : r ls (σ.setI k x (dput (σ.dI k x) n v)) Q) : KPI o t1 r ls Q v σ := g _ (j _ ⟨z, q⟩)
theorem k_putS (g : Ev o ls σ (.ref (.dS k) x)) (j : Ev t1 ls σ (.str y)) (z : (σ.dS k x).1.length ≤ 1000) (q : ∀ e, r ls (σ.setS k x (dput (σ.dS k x).1 y v) e) Q) : KPI o t1 r ls Q v σ := g _ (j _ ⟨z, q⟩)
theorem q_aug (e : ls[i]? = some (some (.int n))) (h : Ev t ls σ (.int m)) (q : r (ls.set i (some (.int (n + m)))) σ Q) : sCons (sAug i t) r ls σ Q := by
  show ob _ _
  rw [e]
  exact h _ q
theorem q_augF {c : Nat} (g : Ev o ls σ (.ref (.inst c) x)) (e : σ.fld c x f = some (.int n)) (h : Ev t ls σ (.int m)) (q : r ls (σ.setF c x f (.int (n + m))) Q) : sCons (sAugF o f t) r ls σ Q := g _ ⟨n, e, h _ q⟩
@[reducible] def KAsg (a : A1) (r : S1) (ls : Ls) (Q : Fl → Ls → H → Prop) (v : V) (σ : H) : Prop := a v ls σ fun ls σ => r ls σ Q
theorem q_asgC {a : A1} (q : t ls σ (KAsg a r ls Q)) : sCons (sAsg t a) r ls σ Q := q
theorem k_asg2 {j : Nat} (q : r ((ls.set i (some v1)).set j (some v2)) σ Q) : KAsg (aTup 2 (asCons (aVar i) (asCons (aVar j) asNil))) r ls Q (.p2 v1 v2) σ := ⟨rfl, q⟩
theorem k_asgF {c c' f' : Nat} {x' : Addr} {o' : E1} (h : Ev o ls σ (.ref (.inst c) x)) (h' : Ev o' ls (σ.setF c x f v1) (.ref (.inst c') x')) (q : r ls ((σ.setF c x f v1).setF c' x' f' v2) Q) : KAsg (aTup 2 (asCons (aFld o f) (asCons (aFld o' f') asNil))) r ls Q (.p2 v1 v2) σ := ⟨rfl, h _ (h' _ q)⟩
theorem q_asg4 {j l m : Nat} (h : Ev t ls σ (.p4 v1 v2 v3 v4)) (q : r ((((ls.set i (some v1)).set j (some v2)).set l (some v3)).set m (some v4)) σ Q) : sCons (sAsg t (aTup 4 (asCons (aVar i) (asCons (aVar j) (asCons (aVar l) (asCons (aVar m) asNil)))))) r ls σ Q := h _ ⟨rfl, q⟩
theorem q_swap2 {j : Nat} (h : Ev t ls σ (.p2 v1 v2)) (q : r ((ls.set j (some v2)).set i (some v1)) σ Q) : sCons (sSwap2 t i j) r ls σ Q := h _ q
@[reducible] def KSw2 (i j : Nat) (r : S1) (ls : Ls) (Q : Fl → Ls → H → Prop) (v : V) (σ : H) : Prop := match v with | .p2 a b => r ((ls.set j (some b)).set i (some a)) σ Q | _ => False
theorem q_swap2C {j : Nat} (q : t ls σ (KSw2 i j r ls Q)) : sCons (sSwap2 t i j) r ls σ Q := q
theorem k_sw2 {j : Nat} (q : r ((ls.set j (some v2)).set i (some v1)) σ Q) : KSw2 i j r ls Q (.p2 v1 v2) σ := q
@[reducible] def KSw3 (i j l : Nat) (r : S1) (ls : Ls) (Q : Fl → Ls → H → Prop) (v : V) (σ : H) : Prop := match v with | .p3 a b c => r (((ls.set l (some c)).set j (some b)).set i (some a)) σ Q | _ => False
theorem q_swap3C {j l : Nat} (q : t ls σ (KSw3 i j l r ls Q)) : sCons (sSwap3 t i j l) r ls σ Q := q
theorem k_sw3 {j l : Nat} (q : r (((ls.set l (some v3)).set j (some v2)).set i (some v1)) σ Q) : KSw3 i j l r ls Q (.p3 v1 v2 v3) σ := q
@[reducible] def KW (c : T1) (b : S1) (m : Nat) (Q : Fl → Ls → H → Prop) (f : Fl) (ls : Ls) (σ : H) : Prop := match f with | .next => whileN c b m ls σ Q | .ret v => Q (.ret v) ls σ
theorem w_t {m : Nat} (h : Et c ls σ true) (q : A ls σ (KW c A m Q)) : whileN c A (m + 1) ls σ Q := h _ ⟨fun _ => q, fun z => (nomatch z)⟩
theorem w_f {m : Nat} (h : Et c ls σ false) (q : Q .next ls σ) : whileN c A (m + 1) ls σ Q := h _ ⟨fun z => (nomatch z), fun _ => q⟩
theorem w_go {m : Nat} (q : c ls σ fun x σ => bsplit x (A ls σ (KW c A m Q)) (Q .next ls σ)) : whileN c A (m + 1) ls σ Q := q
theorem w_end {m : Nat} (q : whileN c A m ls σ Q) : sNil ls σ (KW c A m Q) := q
theorem w_ret {m : Nat} (h : Ev t ls σ v) (q : Q (.ret v) ls σ) : sCons (sRet t) r ls σ (KW c A m Q) := h _ q
theorem q_while (m : Nat) (q : whileN c A m ls σ (KS r Q)) : sCons (sWhile c A) r ls σ Q := ⟨m, q⟩
variable {tg : A1} {ik : IK} {vl : List V} {σ0 : H} {it : I1}
@[reducible] def KF (tg : A1) (body : S1) (r : List V) (ik : IK) (σ : H) (Q : Fl → Ls → H → Prop) (f : Fl) (ls₂ : Ls) (σ₂ : H) : Prop := match f with
    | .next => (ik.adv.items σ₂ = r ∧ ik.same σ σ₂) ∧ forL tg body r ik.adv ls₂ σ₂ Q
    | .ret w => Q (.ret w) ls₂ σ₂
theorem f_var (q : A (ls.set i (some v)) σ (KF (aVar i) A vl ik σ Q)) : forL (aVar i) A (v :: vl) ik ls σ Q := q
theorem f_tup2 {j : Nat} (q : A ((ls.set i (some v1)).set j (some v2)) σ (KF (aTup 2 (asCons (aVar i) (asCons (aVar j) asNil))) A vl ik σ Q)) : forL (aTup 2 (asCons (aVar i) (asCons (aVar j) asNil))) A (.p2 v1 v2 :: vl) ik ls σ Q := ⟨rfl, q⟩
theorem f_tup3 {j l : Nat} (q : A (((ls.set i (some v1)).set j (some v2)).set l (some v3)) σ (KF (aTup 3 (asCons (aVar i) (asCons (aVar j) (asCons (aVar l) asNil)))) A vl ik σ Q)) : forL (aTup 3 (asCons (aVar i) (asCons (aVar j) (asCons (aVar l) asNil)))) A (.p3 v1 v2 v3 :: vl) ik ls σ Q := ⟨rfl, q⟩
theorem f_end (e : ik.adv.items σ = vl) (z : ik.same σ0 σ) (q : forL tg A vl ik.adv ls σ Q) : sNil ls σ (KF tg A vl ik σ0 Q) := ⟨⟨e, z⟩, q⟩
theorem f_ret (h : Ev t ls σ v) (q : Q (.ret v) ls σ) : sCons (sRet t) r ls σ (KF tg A vl ik σ0 Q) := h _ q
theorem q_forL (h : Ev t ls σ (.ref (.lst k) x)) (q : forL tg A ((σ.lst k x).drop 0) (.lst k x 0) ls σ (KS r Q)) : sCons (sFor (iLst t) tg A) r ls σ Q := h _ q
theorem q_forC (q : it ls σ fun ik σ => forL tg A (ik.items σ) ik ls σ (KS r Q)) : sCons (sFor it tg A) r ls σ Q := q
@[reducible] def KFL (tg : A1) (A r : S1) (ls : Ls) (Q : Fl → Ls → H → Prop) (v : V) (σ : H) : Prop := match v with | .ref (.lst k) a => forL tg A ((σ.lst k a).drop 0) (.lst k a 0) ls σ (KS r Q) | _ => False
@[reducible] def KFE (tg : A1) (A r : S1) (ls : Ls) (Q : Fl → Ls → H → Prop) (v : V) (σ : H) : Prop := match v with | .ref (.lst k) a => forL tg A (enumV 0 ((σ.lst k a).drop 0)) (.enm k a 0) ls σ (KS r Q) | _ => False
theorem q_forLC (q : t ls σ (KFL tg A r ls Q)) : sCons (sFor (iLst t) tg A) r ls σ Q := q
theorem q_forEC (q : t ls σ (KFE tg A r ls Q)) : sCons (sFor (iEnum t) tg A) r ls σ Q := q
theorem k_forL (q : forL tg A ((σ.lst k x).drop 0) (.lst k x 0) ls σ (KS r Q)) : KFL tg A r ls Q (.ref (.lst k) x) σ := q
theorem k_forE (q : forL tg A (enumV 0 ((σ.lst k x).drop 0)) (.enm k x 0) ls σ (KS r Q)) : KFE tg A r ls Q (.ref (.lst k) x) σ := q
theorem q_forZ {k' : Nat} {x' : Addr} (h : Ev t ls σ (.ref (.lst k) x)) (g : Ev t1 ls σ (.ref (.lst k') x')) (q : forL tg A (zipV ((σ.lst k x).drop 0) ((σ.lst k' x').drop 0)) (.zip k x k' x' 0) ls σ (KS r Q)) : sCons (sFor (iZip t t1) tg A) r ls σ Q := h _ (g _ q)
theorem q_forR (h : Ev t ls σ (.int n)) (z : 0 ≤ n ∧ n < 1000) (q : forL tg A (rngV 0 n.toNat) (.rng 0 n.toNat) ls σ (KS r Q)) : sCons (sFor (iRng1 t) tg A) r ls σ Q := h _ ⟨z, q⟩
theorem q_forR2 (h : Ev t ls σ (.int n)) (g : Ev t1 ls σ (.int m)) (z : 0 ≤ n ∧ n < 1000 ∧ 0 ≤ m ∧ m < 1000) (q : forL tg A (rngV n (m - n).toNat) (.rng n (m - n).toNat) ls σ (KS r Q)) : sCons (sFor (iRng2 t t1) tg A) r ls σ Q := h _ (g _ ⟨z, q⟩)
variable {nc : Nat} {elt : E1} {acc : List V} {CL : List V → H → Prop}
theorem cl_var (e : (ls.set i (some v)).take nc = ls.take nc) (h : Et c (ls.set i (some v)) σ true) (g : Ev elt (ls.set i (some v)) σ w) (z : acc.length ≤ 1000) (e1 : ik.adv.items σ = vl) (e2 : ik.same σ σ) (q : compL nc (aVar i) c elt vl ik.adv (ls.set i (some v)) (acc ++ [w]) σ CL) : compL nc (aVar i) c elt (v :: vl) ik ls acc σ CL :=
  ⟨e, h _ ⟨fun _ => g _ ⟨⟨z, e1, e2⟩, q⟩, fun z => (nomatch z)⟩⟩
theorem cl_var0 (e : (ls.set i (some v)).take nc = ls.take nc) (h : Et c (ls.set i (some v)) σ false) (e1 : ik.adv.items σ = vl) (e2 : ik.same σ σ) (q : compL nc (aVar i) c elt vl ik.adv (ls.set i (some v)) acc σ CL) : compL nc (aVar i) c elt (v :: vl) ik ls acc σ CL :=
  ⟨e, h _ ⟨fun z => (nomatch z), fun _ => ⟨⟨e1, e2⟩, q⟩⟩⟩
theorem cl_tup2 {j : Nat} (e : ((ls.set i (some v1)).set j (some v2)).take nc = ls.take nc) (h : Et c ((ls.set i (some v1)).set j (some v2)) σ true) (g : Ev elt ((ls.set i (some v1)).set j (some v2)) σ w) (z : acc.length ≤ 1000) (e1 : ik.adv.items σ = vl) (e2 : ik.same σ σ) (q : compL nc (aTup 2 (asCons (aVar i) (asCons (aVar j) asNil))) c elt vl ik.adv ((ls.set i (some v1)).set j (some v2)) (acc ++ [w]) σ CL) :
    compL nc (aTup 2 (asCons (aVar i) (asCons (aVar j) asNil))) c elt (.p2 v1 v2 :: vl) ik ls acc σ CL := ⟨rfl, e, h _ ⟨fun _ => g _ ⟨⟨z, e1, e2⟩, q⟩, fun z => (nomatch z)⟩⟩
theorem cl_tup20 {j : Nat} (e : ((ls.set i (some v1)).set j (some v2)).take nc = ls.take nc) (h : Et c ((ls.set i (some v1)).set j (some v2)) σ false) (e1 : ik.adv.items σ = vl) (e2 : ik.same σ σ) (q : compL nc (aTup 2 (asCons (aVar i) (asCons (aVar j) asNil))) c elt vl ik.adv ((ls.set i (some v1)).set j (some v2)) acc σ CL) :
    compL nc (aTup 2 (asCons (aVar i) (asCons (aVar j) asNil))) c elt (.p2 v1 v2 :: vl) ik ls acc σ CL := ⟨rfl, e, h _ ⟨fun z => (nomatch z), fun _ => ⟨⟨e1, e2⟩, q⟩⟩⟩
@[reducible] def KC (k : Nat) (a : Addr) (C : V → H → Prop) (acc : List V) (σ : H) : Prop := a < σ.nxt ∧ C (.ref (.lst k) a) (σ.setL k a acc)
theorem e_comp {ci : List Nat} {m : Nat} (q : it ls σ fun ik σ₁ => (∀ i ∈ ci, ∃ v, ls[i]? = some (some v)) ∧ ∀ a, σ₁.nxt ≤ a → compL ci.length tg c elt (ik.items σ₁) ik (ci.map (fun i => (ls[i]?).join) ++ List.replicate m none) [] (σ₁.res a) (KC k a C)) : pComp k ci m tg c elt it ls σ C := q
theorem e_compL {ci : List Nat} {m k' : Nat} (h : Ev t ls σ (.ref (.lst k') x)) (e : ∀ i ∈ ci, ∃ v, ls[i]? = some (some v)) (q : ∀ a, σ.nxt ≤ a → compL ci.length tg c elt ((σ.lst k' x).drop 0) (.lst k' x 0) (ci.map (fun i => (ls[i]?).join) ++ List.replicate m none) [] (σ.res a) (KC k a C)) : pComp k ci m tg c elt (iLst t) ls σ C := h _ ⟨e, q⟩
theorem e_compE {ci : List Nat} {m k' : Nat} (h : Ev t ls σ (.ref (.lst k') x)) (e : ∀ i ∈ ci, ∃ v, ls[i]? = some (some v)) (q : ∀ a, σ.nxt ≤ a → compL ci.length tg c elt (enumV 0 ((σ.lst k' x).drop 0)) (.enm k' x 0) (ci.map (fun i => (ls[i]?).join) ++ List.replicate m none) [] (σ.res a) (KC k a C)) : pComp k ci m tg c elt (iEnum t) ls σ C := h _ ⟨e, q⟩
@[reducible] def KCE (k : Nat) (ci : List Nat) (m : Nat) (tg : A1) (c : T1) (elt : E1) (ls : Ls) (C : V → H → Prop) (v : V) (σ : H) : Prop := match v with
  | .ref (.lst k') x => (∀ i ∈ ci, ∃ v, ls[i]? = some (some v)) ∧ ∀ a, σ.nxt ≤ a → compL ci.length tg c elt (enumV 0 ((σ.lst k' x).drop 0)) (.enm k' x 0) (ci.map (fun i => (ls[i]?).join) ++ List.replicate m none) [] (σ.res a) (KC k a C)
  | _ => False
theorem e_compEC {ci : List Nat} {m : Nat} (q : t ls σ (KCE k ci m tg c elt ls C)) : pComp k ci m tg c elt (iEnum t) ls σ C := q
theorem e_compK {ci : List Nat} {m k' : Nat} (h : Ev t ls σ (.ref (.dS k') x)) (e : ∀ i ∈ ci, ∃ v, ls[i]? = some (some v)) (q : ∀ a, σ.nxt ≤ a → compL ci.length tg c elt (((σ.dS k' x).1.drop 0).map fun p => .str p.1) (.key k' x 0) (ci.map (fun i => (ls[i]?).join) ++ List.replicate m none) [] (σ.res a) (KC k a C)) : pComp k ci m tg c elt (iKey t) ls σ C := h _ ⟨e, q⟩
end
end
local macro_rules | `(tactic| injection $x) => `(tactic| ((with_reducible apply $x); (focus (walk_at "ev"); done)))
local macro_rules | `(tactic| nomatch $x) => `(tactic| ((with_reducible apply $x); walk_at "ce"))
local macro_rules | `(tactic| walk_at "e1") => do
  let l ← (("Ev.fld Ev.tup2 Ev.tup3 Ev.tup4 Ev.sb Ev.get Ev.ift Ev.iff Ev.add Ev.sub Ev.mod2 Ev.band Ev.cis Ev.cge Ev.repr Ev.toInt Ev.ceqI Ev.not1 Ev.not0 Ev.ort Ev.orf Ev.andt" : String).splitOn " ").toArray.mapM fun n => `(tacticSeq| ((with_reducible apply $(Lean.mkIdent (`NT ++ n.toName))) <;> walk_at "ev"))
  `(tactic| first $[| $l]*)
local macro_rules | `(tactic| walk_at "e2") => do
  let l ← (("Et.vl Et.is Et.isn Et.not1 Et.not0 Et.a0 Et.o0 Et.tru Et.at Et.af Et.ot Et.of Et.ge Et.gt Et.lt Et.eqI Et.neI" : String).splitOn " ").toArray.mapM fun n => `(tacticSeq| ((with_reducible apply $(Lean.mkIdent (`NT ++ n.toName))) <;> walk_at "ev"))
  `(tactic| first $[| $l]*)
local macro_rules | `(tactic| walk_at "e4") => `(tactic| first | with_reducible assumption | assumption | exact rfl | exact NT.setF_at | ((with_reducible apply Eq.trans (NT.setF_a (by assumption))); walk_at "ev") | ((with_reducible apply Eq.trans (NT.setF_f (by decide))); walk_at "ev") | ((with_reducible apply Eq.trans (NT.setF_c (by decide))); walk_at "ev") | ((with_reducible apply decide_eq_true); first | assumption | omega) | ((with_reducible apply decide_eq_false); first | assumption | omega) | ((with_reducible apply NT.nb_t); first | assumption | omega) | ((with_reducible apply NT.nb_f); first | assumption | rfl | omega))
local macro_rules | `(tactic| walk_at "st") => do
  let l ← (("q_nil q_cons k_ift k_iff q_ret0F q_endF w_end" : String).splitOn " ").toArray.mapM fun n => `(tacticSeq| with_reducible apply $(Lean.mkIdent (`NT ++ n.toName)))
  let k ← (("q_set k_put q_ift q_iff q_retF w_ret f_ret" : String).splitOn " ").toArray.mapM fun n => `(tacticSeq| injection $(Lean.mkIdent (`NT ++ n.toName)))
  let l := l ++ k ++ #[← `(tacticSeq| ((with_reducible apply NT.q_putF); (focus (walk_at "ev"); done); (focus (walk_at "ev"); done)))]
  `(tactic| first $[| $l]*)
local macro_rules | `(tactic| walk_at "ce") => do
  let l ← (("e_iff e_ift d_at" : String).splitOn " ").toArray.mapM fun n => `(tacticSeq| ((with_reducible apply $(Lean.mkIdent (`NT ++ n.toName))); (focus (walk_at "ev"); done); walk_at "ce"))
  let k ← (("d_is d_isn d_cmp d_tval d_not e_sub e_bi e_bin e_cmp e_and" : String).splitOn " ").toArray.mapM fun n => `(tacticSeq| nomatch $(Lean.mkIdent (`NT ++ n.toName)))
  let l := #[← `(tacticSeq| ((with_reducible apply NT.e_meth); (focus (walk_at "ev"); done); exact rfl; (focus (walk_at "ev"); done))), ← `(tacticSeq| injection NT.e_call)] ++ l ++ k
  `(tactic| first $[| $l]*)
local macro_rules | `(tactic| walk_at "ca") => do
  let k ← (("q_expr q_setC q_putFC q_ifC q_retFC q_retC q_forLC q_forEC" : String).splitOn " ").toArray.mapM fun n => `(tacticSeq| nomatch $(Lean.mkIdent (`NT ++ n.toName)))
  `(tactic| first $[| $k]*)
local macro_rules | `(tactic| walk_at "ev") => `(tactic| first | ((with_reducible apply NT.Ev.var); first | exact rfl | walk_at "ev") | with_reducible apply NT.Ev.con | ((guard_target = NT.Ev _ _ _ _); walk_at "e1") | ((guard_target = NT.Et _ _ _ _); walk_at "e2") | ((guard_target = _ = _); walk_at "e4") | ((with_reducible apply NT.SB.l) <;> walk_at "ev") | ((with_reducible apply NT.SB.s) <;> walk_at "ev") | ((with_reducible apply NT.SB.p) <;> walk_at "ev") | ((with_reducible apply NT.VT.b) <;> walk_at "ev") | ((with_reducible apply NT.VT.z) <;> walk_at "ev") | ((with_reducible apply NT.VT.nz) <;> walk_at "ev") | with_reducible apply NT.El.nil | ((with_reducible apply NT.El.cons) <;> walk_at "ev") | with_reducible assumption | assumption | exact ⟨by omega, by omega⟩)
section
set_option linter.unusedSimpArgs false
set_option maxHeartbeats 4000000
set_option maxRecDepth 10000
theorem sp_next {σ : H} {tr : Addr} {md : Int} {Q : V → H → Prop} (h : σ.fld 1 tr 11 = some (.int md)) (q : Q (.int (md + 1)) (σ.setF 1 tr 11 (.int (md + 1)))) : F_ShapeTree_next_number [.ref (.inst 1) tr] σ Q := by
  refine q_def rfl (q_augF (by walk_at "ev") h Ev.con ?_)
  walk_at "st"
  exact q
structure RO1 (σ : H) (S : SM) (a : Addr) (i : Sh) : Prop where
  f1 : σ.fld 0 a 1 = some (befV i.bef)
  f3 : σ.fld 0 a 3 = some (keyV i.key)
  f4 : σ.fld 0 a 4 = some (.int i.flg)
  num0 : 0 < i.num
  good : GR i.rows
  bef : ∀ b, i.bef = some b → ∃ j, S b = some j ∧ j.num < i.num ∧ j.pro = i.pro ∧ j.op = true ∧ i.rows = j.rows ++ keyR i.key i.flg
  bef0 : i.bef = none → i.rows = [] ∧ i.key = none ∧ i.op = true
def RO (σ : H) (S : SM) : Prop := ∀ a i, S a = some i → RO1 σ S a i
theorem SI.ro' {σ σ' : H} {tr ro : Addr} {N : Nat} {S : SM} (h : SI σ tr ro N S) (e : ∀ a f, f < 5 → S a ≠ none → σ'.fld 0 a f = σ.fld 0 a f) : RO σ' S := fun a i ha =>
  let I := h.sh a i ha
  have n : S a ≠ none := by rw [ha]; exact fun e => nomatch e
  ⟨(e a 1 (by decide) n).trans I.f1, (e a 3 (by decide) n).trans I.f3, (e a 4 (by decide) n).trans I.f4, I.num0, I.good, I.bef, I.bef0⟩
noncomputable abbrev rowsC : T1 := tCmp fIsNot (pV 2) (pK .none)
noncomputable abbrev rowsB : S1 := sCons (sIf (tCmp fIsNot (pF (pV 2) 3) (pK .none)) (sCons (sExpr (pAppend (pV 1) (pTup (eCons (pF (pV 2) 3) (eCons (pF (pV 2) 4) eNil))))) sNil) sNil) (sCons (sSet 2 (pF (pV 2) 1)) sNil)
theorem rows_while {σ : H} {S : SM} (h : RO σ S) {c : Addr} {self : V} : ∀ (n : Nat) (b : Option Addr) (acc : List V) (Q : Fl → Ls → H → Prop) (r : Rw),
    (∀ x, b = some x → ∃ j, S x = some j ∧ j.num ≤ n ∧ j.rows = r) → (b = none → r = []) → acc.length + r.length ≤ 900 → 
    Q .next [some self, some (.ref (.lst 0) c), some .none] (σ.newL 0 c (acc ++ (r.map rowV).reverse)) →
    whileN rowsC rowsB (n + 1) [some self, some (.ref (.lst 0) c), some (befV b)] (σ.newL 0 c acc) Q := by
  have fin : ∀ {n : Nat} {acc : List V} {Q : Fl → Ls → H → Prop} {r : Rw}, r = [] → Q .next [some self, some (.ref (.lst 0) c), some .none] (σ.newL 0 c (acc ++ (r.map rowV).reverse)) → whileN rowsC rowsB (n + 1) [some self, some (.ref (.lst 0) c), some .none] (σ.newL 0 c acc) Q := by
    rintro n acc Q r rfl q
    rw [show acc ++ (List.map rowV []).reverse = acc from List.append_nil acc] at q
    exact w_f (by walk_at "ev") q
  intro n
  induction n with
  | zero =>
    intro b acc Q r hb hn hl q
    cases b with
    | none => exact fin (hn rfl) q
    | some x => 
      obtain ⟨j, hj, h1, h2⟩ := hb x rfl
      have := (h x j hj).num0
      omega
  | succ n ih =>
    intro b acc Q r hb hn hl q
    cases b with
    | none => exact fin (hn rfl) q
    | some x => 
      obtain ⟨j, hj, h1, rfl⟩ := hb x rfl
      have J := h x j hj
      have go : ∀ acc', acc'.length ≤ acc.length + (keyR j.key j.flg).length → acc' = acc ++ ((keyR j.key j.flg).map rowV).reverse → whileN rowsC rowsB (n + 1) [some self, some (.ref (.lst 0) c), some (befV j.bef)] (σ.newL 0 c acc') Q := by
        intro acc' hl' e
        cases hbf : j.bef with
        | none =>
          obtain ⟨r0, k0, -⟩ := J.bef0 hbf
          refine ih none acc' Q [] (fun _ e => nomatch e) (fun _ => rfl) ?_ ?_
          · rw [k0] at hl'; exact Nat.le_trans (Nat.add_le_add_right hl' _) (by simp only [keyR, List.length_nil]; omega)
          · rw [e, k0]; rw [r0] at q; exact List.append_assoc acc _ _ ▸ q
        | some b' =>
          obtain ⟨j', hj', hnum, -, -, er⟩ := J.bef b' hbf
          refine ih (some b') acc' Q j'.rows (fun y e => by cases e; exact ⟨j', hj', by omega, rfl⟩) (fun e => nomatch e) ?_ ?_
          · rw [er, List.length_append] at hl; omega
          · rw [e, List.append_assoc, ← List.reverse_append, ← List.map_append, ← er]; exact q
      have f3 := J.f3
      have f4 := J.f4
      have f1 := J.f1
      refine w_t (by walk_at "ev") ?_
      cases hk : j.key with
      | none =>
        rw [hk] at f3
        repeat (walk_at "st")
        exact go acc (Nat.le_add_right _ _) (by rw [hk]; exact (List.append_nil acc).symm)
      | some k =>
        rw [hk] at f3
        repeat (walk_at "st")
        refine q_expr (e_append (by walk_at "ev") (by walk_at "ev") (by rw [newL_at]; exact pc9) ?_)
        rw [newL_at, newL_setL]
        repeat (walk_at "st")
        exact go _ (by rw [hk, List.length_append]; exact Nat.le_refl _) (by rw [hk]; rfl)
theorem sp_rows {σ : H} {S : SM} (h : RO σ S) {a : Addr} {i : Sh} (ha : S a = some i) {Q : V → H → Prop} (q : ∀ c, σ.nxt ≤ c → Q (.ref (.lst 0) c) (σ.newL 0 c (i.rows.map rowV))) : F_Shape_rows [shv a] σ Q := by
  have I := h a i ha
  have hl := I.good.len
  have n0 := I.num0
  refine q_def rfl (q_setC (e_list El.nil (by decide) fun c hc => ?_))
  repeat (walk_at "st")
  refine q_while (i.num.toNat + 1) (rows_while h (c := c) (self := shv a) i.num.toNat (some a) [] _ i.rows (fun y e => by cases e; exact ⟨i, ha, by omega, rfl⟩) (fun e => nomatch e) (by rw [List.length_nil]; exact pc8) ?_)
  rw [List.nil_append]
  refine q_expr (e_rev (by walk_at "ev") (by rw [newL_at, List.length_reverse, List.length_map]; exact pc1) ?_)
  rw [newL_at, newL_setL, List.reverse_reverse]
  repeat (walk_at "st")
  exact q c hc
theorem setS_setS {σ : H} {k : Nat} {c : Addr} {l l' : List (Str × V)} {e e' : Nat} : (σ.setS k c l e).setS k c l' e' = σ.setS k c l' e' := by
  simp only [H.setS, H.mk.injEq, true_and, and_true]
  funext k' a'
  by_cases h : k' = k ∧ a' = c <;> simp [h]
theorem sp_place_loop {a d : Addr} {c : Addr} {x : V} : ∀ (r : Rw) (p : Rw) (σ : H) (Q : Fl → Ls → H → Prop) (l2 l3 : Option V),
    GR (p ++ r) → σ.lst 0 c = (p ++ r).map rowV → σ.fld 0 a 9 = some (.ref (.dS 0) d) → (σ.dS 0 d).1 = placesL 0 p →
    (∀ σ' l2 l3, (∃ e, σ' = σ.setS 0 d (placesL 0 (p ++ r)) e) ∨ (σ' = σ ∧ r = []) → Q .next [some (shv a), some x, l2, l3] σ') →
    forL (aTup 2 (asCons (aVar 2) (asCons (aVar 3) asNil))) (sCons (sPutI (pTup (eCons (pV 2) (eCons (pSub (pV 3) (pK (.int 1))) eNil))) (pF (pV 0) 9) (pSub (pV 3) (pK (.int 0)))) sNil)
      (enumV p.length (r.map rowV)) (.enm 0 c p.length) [some (shv a), some x, l2, l3] σ Q := by
  intro r
  induction r with
  | nil => 
    intro p σ Q l2 l3 hg hl hf hd q
    exact q σ _ _ (.inr ⟨rfl, rfl⟩)
  | cons y r ih =>
    intro p σ Q l2 l3 hg hl hf hd q
    obtain ⟨k, f⟩ := y
    have hnd : k ∉ p.map (·.1) := fun e => by
      have := hg.1
      rw [List.map_append, List.nodup_append] at this
      exact this.2.2 _ e k (.head _) rfl
    have hlen := hg.len
    rw [List.length_append] at hlen
    have e1 : (placesL 0 p).length = p.length := by rw [← List.length_map (f := (·.1)), placesL_keys, List.length_map]
    have e2 : dput (placesL 0 p) k (V.p2 (.int p.length) (.int f)) = placesL 0 (p ++ [(k, f)]) := by
      rw [dput_new (by rw [placesL_keys]; exact hnd), placesL_snoc, Nat.zero_add]
    refine f_tup2 (q_putS (by walk_at "ev") (by walk_at "ev") (by walk_at "ev") (by rw [hd]; omega) fun e => f_end ?_ trivial ?_)
    · show enumV (p.length + 1) ((σ.lst 0 c).drop (p.length + 1)) = _
      rw [hl, drop_mid]
    · rw [hd, e2]
      have := ih (p ++ [(k, f)]) (σ.setS 0 d (placesL 0 (p ++ [(k, f)])) e) Q (some (V.int p.length)) (some (V.p2 (.str k) (.int f))) (by rw [List.append_assoc]; exact hg) (by rw [List.append_assoc]; exact hl) hf (by rw [setS_at]) ?_
      · rw [List.length_append] at this; exact this
      · intro σ' m2 m3 hq
        refine q σ' m2 m3 (.inl ?_)
        rcases hq with ⟨e', rfl⟩ | ⟨rfl, rfl⟩
        · exact ⟨e', by rw [List.append_assoc, setS_setS]; rfl⟩
        · exact ⟨e, rfl⟩
theorem GR.nil : GR [] := ⟨List.nodup_nil, fun _ h => nomatch h⟩
theorem ShOk.mono {σ σ' : H} {S S' : SM} {a : Addr} {i : Sh} (h : ShOk σ S a i) (e : Ext S S') (hn : σ.nxt ≤ σ'.nxt) (hf : ∀ f, f ≠ 8 → f ≠ 9 → σ'.fld 0 a f = σ.fld 0 a f) (hd : σ'.dT 0 i.lat = σ.dT 0 i.lat)
    (h8 : σ'.fld 0 a 8 = some .none ∨ ∃ b j, σ'.fld 0 a 8 = some (shv b) ∧ S' b = some j ∧ j.op = false ∧ j.rows = i.rows ∧ j.pro = i.pro)
    (h9 : σ'.fld 0 a 9 = some .none ∨ ∃ d, σ'.fld 0 a 9 = some (.ref (.dS 0) d) ∧ d < σ'.nxt ∧ (σ'.dS 0 d).1 = placesL 0 i.rows) : ShOk σ' S' a i where
  f0 := (hf 0 (by decide) (by decide)).trans h.f0
  f1 := (hf 1 (by decide) (by decide)).trans h.f1
  f2 := (hf 2 (by decide) (by decide)).trans h.f2
  f3 := (hf 3 (by decide) (by decide)).trans h.f3
  f4 := (hf 4 (by decide) (by decide)).trans h.f4
  f5 := (hf 5 (by decide) (by decide)).trans h.f5
  f6 := (hf 6 (by decide) (by decide)).trans h.f6
  f7 := (hf 7 (by decide) (by decide)).trans h.f7
  f8 := h8
  f9 := h9
  lt := Nat.lt_of_lt_of_le h.lt hn
  latlt := Nat.lt_of_lt_of_le h.latlt hn
  num0 := h.num0
  good := h.good
  bef := fun b q => let ⟨j, h1, r⟩ := h.bef b q; ⟨j, e _ _ h1, r⟩
  bef0 := h.bef0
  keyop := h.keyop
  lat := by rw [hd]; exact fun x hx => let ⟨h1, h2, h3, b, j, h4, h5, r⟩ := h.lat x hx; ⟨h1, h2, h3, b, j, h4, e _ _ h5, r⟩
  latnd := by rw [hd]; exact h.latnd
theorem ShOk.f8' {σ : H} {S S' : SM} {a : Addr} {i : Sh} (h : ShOk σ S a i) (e : Ext S S') : σ.fld 0 a 8 = some .none ∨ ∃ b j, σ.fld 0 a 8 = some (shv b) ∧ S' b = some j ∧ j.op = false ∧ j.rows = i.rows ∧ j.pro = i.pro :=
  h.f8.imp id fun ⟨b, j, h1, h2, r⟩ => ⟨b, j, h1, e _ _ h2, r⟩
theorem ShOk.f9' {σ σ' : H} {S : SM} {a : Addr} {i : Sh} (h : ShOk σ S a i) (hn : σ.nxt ≤ σ'.nxt) (hs : ∀ d, d < σ.nxt → σ'.dS 0 d = σ.dS 0 d) : σ.fld 0 a 9 = some .none ∨ ∃ d, σ.fld 0 a 9 = some (.ref (.dS 0) d) ∧ d < σ'.nxt ∧ (σ'.dS 0 d).1 = placesL 0 i.rows :=
  h.f9.imp id fun ⟨d, h1, h2, h3⟩ => ⟨d, h1, Nat.lt_of_lt_of_le h2 hn, by rw [hs d h2]; exact h3⟩
theorem ShOk.eqv {σ σ' : H} {S S' : SM} {a : Addr} {i : Sh} (h : ShOk σ S a i) (e : Ext S S') (hn : σ.nxt ≤ σ'.nxt) (hf : σ'.fld 0 a = σ.fld 0 a) (hd : σ'.dT 0 i.lat = σ.dT 0 i.lat) (hs : ∀ d, d < σ.nxt → σ'.dS 0 d = σ.dS 0 d) : ShOk σ' S' a i :=
  h.mono e hn (fun f _ _ => by rw [hf]) hd (by rw [hf]; exact h.f8' e) (by rw [hf]; exact h.f9' hn hs)
theorem SI.same {σ σ' : H} {tr ro : Addr} {N : Nat} {S : SM} (h : SI σ tr ro N S) (hs : ∀ a i, S a = some i → ShOk σ' S a i) (h1 : σ'.fld 1 tr = σ.fld 1 tr) (h2 : ∀ p, σ'.fld 2 p 0 = σ.fld 2 p 0) (hI : σ'.dI 0 ro = σ.dI 0 ro) (hn : σ.nxt ≤ σ'.nxt) : SI σ' tr ro N S where
  sh := hs
  inj := h.inj
  latinj := h.latinj
  t10 := by rw [h1]; exact h.t10
  t11 := by simpa only [h1, h2] using h.t11
  t12 := by rw [h1]; exact h.t12
  roots := by simpa only [hI, h2] using h.roots
  rond := by rw [hI]; exact h.rond
  rolt := Nat.lt_of_lt_of_le h.rolt hn
  trlt := Nat.lt_of_lt_of_le h.trlt hn
  numinj := by simpa only [h2] using h.numinj
  reg := by simpa only [h2] using h.reg
  n10 := h.n10
theorem SI.eqv {σ σ' : H} {tr ro : Addr} {N : Nat} {S : SM} (h : SI σ tr ro N S) (h0 : σ'.fld 0 = σ.fld 0) (h1 : σ'.fld 1 = σ.fld 1) (h2 : ∀ p, σ'.fld 2 p 0 = σ.fld 2 p 0) (hI : σ'.dI 0 = σ.dI 0) (hT : σ'.dT 0 = σ.dT 0) (hS : σ'.dS 0 = σ.dS 0) (hn : σ.nxt ≤ σ'.nxt) : SI σ' tr ro N S :=
  h.same (fun a i ha => (h.sh a i ha).eqv (.refl _) hn (by rw [h0]) (by rw [hT]) fun d _ => by rw [hS]) (by rw [h1]) h2 (by rw [hI]) hn
theorem sp_place {σ : H} {tr ro : Addr} {N : Nat} {S : SM} (h : SI σ tr ro N S) {a : Addr} {i : Sh} (ha : S a = some i) (x : Str) {Q : V → H → Prop} (q : ∀ σ', SI σ' tr ro N S → FrA σ σ' → Q (plV (idxR 0 i.rows x)) σ') : F_Shape_place [shv a, .str x] σ Q := by
  have I := h.sh a i ha
  refine q_def rfl ?_
  rcases I.f9 with e9 | ⟨d, e9, hd, ed⟩
  · repeat (walk_at "st")
    refine q_putFC (e_dict0S fun d e hd => ?_)
    repeat (walk_at "st")
    refine q_forEC (e_meth (by walk_at "ev") rfl El.nil (sp_rows (σ := (σ.newS 0 d [] e).setF 0 a 9 (.ref (.dS 0) d)) (i := i) (h.ro' fun b f hf hb => setF_f (by exact pc4)) ha fun c hc => k_forE ?_))
    have hc' : σ.nxt ≤ c := Nat.le_trans (Nat.le_succ_of_le hd) hc
    have hcd : d < c := hc
    have fin : ∀ σ' : H, (∃ e', σ' = (((σ.newS 0 d [] e).setF 0 a 9 (.ref (.dS 0) d)).newL 0 c (i.rows.map rowV)).setS 0 d (placesL 0 i.rows) e') → SI σ' tr ro N S ∧ FrA σ σ' ∧ (σ'.dS 0 d).1 = placesL 0 i.rows ∧ σ'.fld 0 a 9 = some (.ref (.dS 0) d) := by
      rintro σ' ⟨e', rfl⟩
      have e0 : ∀ d', d' ≠ d → ((((σ.newS 0 d [] e).setF 0 a 9 (.ref (.dS 0) d)).newL 0 c (i.rows.map rowV)).setS 0 d (placesL 0 i.rows) e').dS 0 d' = σ.dS 0 d' := fun d' n => (setS_a n).trans (newS_a n)
      have ff : ∀ f, f ≠ 9 → ((σ.newS 0 d [] e).setF 0 a 9 (.ref (.dS 0) d)).fld 0 a f = σ.fld 0 a f := fun f n => setF_f n
      refine ⟨h.same (fun b j hb => ?_) ?_ ?_ rfl ?_, ⟨?_, fun c' hc' => ?_, fun k b hk => ?_, fun k hk => ?_⟩, ?_, ?_⟩
      · by_cases hab : b = a
        · subst hab
          obtain rfl : j = i := by rw [ha] at hb; cases hb; rfl
          refine I.mono (.refl _) ?_ (fun f _ hf => ff f hf) rfl ?_ (.inr ⟨d, setF_at, Nat.lt_succ_of_lt hcd, ?_⟩)
          · exact Nat.le_succ_of_le hc'
          · rw [show ∀ {s : H} {k : Nat} {a : Addr} {l : List V} {d : Addr} {p : List (Str × V)} {e : Nat} {b f : Nat}, ((s.newL k a l).setS 0 d p e).fld 0 b f = s.fld 0 b f from rfl, ff 8 (by decide)]; exact I.f8
          · rw [setS_at]
        · refine (h.sh b j hb).eqv (.refl _) (Nat.le_succ_of_le hc') ?_ rfl fun d' hd' => e0 d' (Nat.ne_of_lt (Nat.lt_of_lt_of_le hd' hd))
          exact (setF_al hab : ((σ.newS 0 d [] e).setF 0 a 9 (.ref (.dS 0) d)).fld 0 b = _)
      · exact congrFun (setF_cl (by decide) : ((σ.newS 0 d [] e).setF 0 a 9 (.ref (.dS 0) d)).fld 1 = _) tr
      · exact fun p => congrFun (congrFun (setF_cl (by decide) : ((σ.newS 0 d [] e).setF 0 a 9 (.ref (.dS 0) d)).fld 2 = _) p) 0
      · exact Nat.le_succ_of_le hc'
      · exact Nat.le_succ_of_le hc'
      · exact (setF_cl (by exact pc5) : ((σ.newS 0 d [] e).setF 0 a 9 (.ref (.dS 0) d)).fld c' = _)
      · exact (newL_ka (fun q => Nat.lt_irrefl _ (Nat.lt_of_lt_of_le (q.2 ▸ hk q.1) hc')) : (((σ.newS 0 d [] e).setF 0 a 9 (.ref (.dS 0) d)).newL 0 c (i.rows.map rowV)).lst k b = _)
      · exact (setS_kl (by exact pc5)).trans (newS_kl (by exact pc5))
      · rw [setS_at]
      · exact setF_at
    rw [newL_at]
    refine sp_place_loop (a := a) (d := d) (c := c) (x := .str x) i.rows [] (((σ.newS 0 d [] e).setF 0 a 9 (.ref (.dS 0) d)).newL 0 c (i.rows.map rowV)) _ _ _ I.good newL_at setF_at (congrArg Prod.fst newS_at) ?_
    intro σ' l2 l3 hσ
    have hσ' : ∃ e', σ' = (((σ.newS 0 d [] e).setF 0 a 9 (.ref (.dS 0) d)).newL 0 c (i.rows.map rowV)).setS 0 d (placesL 0 i.rows) e' := by
      rcases hσ with h | ⟨rfl, h⟩
      · exact h
      · refine ⟨e, ?_⟩
        rw [h]
        exact (congrArg (fun s => H.newL (H.setF { s with nxt := d + 1 } 0 a 9 (.ref (.dS 0) d)) 0 c (List.map rowV [])) (setS_setS (σ := σ) (k := 0) (c := d) (l := []) (l' := []) (e := e) (e' := e)).symm)
    obtain ⟨f1, f2, f3, f4⟩ := fin σ' hσ'
    repeat (walk_at "st")
    rw [f3, dget_places]
    exact q _ f1 f2
  · repeat (walk_at "st")
    rw [ed, dget_places]
    exact q σ h (.refl _)
end
section
set_option linter.unusedSimpArgs false
set_option maxHeartbeats 4000000
set_option maxRecDepth 10000
noncomputable def shF (n : Int) (b p : Option Addr) (k : Option Str) (f sz : Int) (op : Bool) (l : Addr) (i : Nat) : Option V := [.int n, befV b, proV p, keyV k, .int f, .int sz, .bool op, .ref (.dT 0) l, .none, .none][i]?
noncomputable def H.newSh (σ : H) (a l : Addr) (n : Int) (b p : Option Addr) (k : Option Str) (f sz : Int) (op : Bool) : H :=
  { σ with fld := fun c' a' => if c' = 0 ∧ a' = a then shF n b p k f sz op l else σ.fld c' a', dT := fun k' a' => if k' = 0 ∧ a' = l then [] else σ.dT k' a', nxt := l + 1 }
theorem H.ext' {σ σ' : H} (h1 : ∀ c a f, σ.fld c a f = σ'.fld c a f) (h2 : ∀ k a, σ.lst k a = σ'.lst k a) (h3 : ∀ k a, σ.dS k a = σ'.dS k a) (h4 : ∀ k a, σ.dI k a = σ'.dI k a) (h5 : ∀ k a, σ.dT k a = σ'.dT k a) (h6 : σ.nxt = σ'.nxt) : σ = σ' := by
  obtain ⟨a1, a2, a3, a4, a5, a6⟩ := σ
  obtain ⟨b1, b2, b3, b4, b5, b6⟩ := σ'
  have e1 : a1 = b1 := by funext c a f; exact h1 c a f
  have e2 : a2 = b2 := by funext c a; exact h2 c a
  have e3 : a3 = b3 := by funext c a; exact h3 c a
  have e4 : a4 = b4 := by funext c a; exact h4 c a
  have e5 : a5 = b5 := by funext c a; exact h5 c a
  have e6 : a6 = b6 := h6
  subst e1 e2 e3 e4 e5 e6
  rfl
theorem newSh_mk {σ : H} {a l : Addr} {n : Int} {b p : Option Addr} {sz : Int} {op : Bool} :
    ((((((((((((σ.newC 0 a).setF 0 a 0 (.int n)).setF 0 a 1 (befV b)).setF 0 a 2 (proV p)).setF 0 a 3 .none).setF 0 a 4 (.int 0)).setF 0 a 5 (.int sz)).setF 0 a 6 (.bool op)).newT 0 l []).setF 0 a 7 (.ref (.dT 0) l)).setF 0 a 8 .none).setF 0 a 9 .none) = σ.newSh a l n b p none 0 sz op :=
  H.ext' (fun c x f => congrFun (newC_fs (σ := σ) (c := 0) (a := a) (l := [.int n, befV b, proV p, .none, .int 0, .int sz, .bool op, .ref (.dT 0) l, .none, .none]) (c' := c) (a' := x)) f) (fun _ _ => rfl) (fun _ _ => rfl) (fun _ _ => rfl) (fun _ _ => rfl) rfl
theorem sp_shape_init {σ : H} {n : Int} {b p : Option Addr} {sz : Int} {op : Bool} {Q : V → H → Prop} (hb : ∀ x, b = some x → x < σ.nxt ∧ σ.fld 0 x 5 = some (.int sz) ∧ σ.fld 0 x 6 = some (.bool op)) (h0 : b = none → sz = 0 ∧ op = true)
    (q : ∀ a l, σ.nxt ≤ a → a < l → Q (shv a) (σ.newSh a l n b p none 0 sz op)) : fNew 0 F_Shape_init [.int n, befV b, proV p] σ Q := by
  intro a ha
  refine q_def rfl ?_
  cases b with
  | none =>
    obtain ⟨rfl, rfl⟩ := h0 rfl
    repeat (walk_at "st")
    refine q_putFC (e_dict0T fun l hl => ?_)
    repeat (walk_at "st")
    exact ⟨rfl, newSh_mk (b := none) ▸ q a l ha hl⟩
  | some x =>
    obtain ⟨hx, h5, h6⟩ := hb x rfl
    have hxa : x ≠ a := Nat.ne_of_lt (Nat.lt_of_lt_of_le hx ha)
    have h5 := (congrFun (newC_al (σ := σ) (c := 0) (c' := 0) hxa) 5).trans h5
    have h6 := (congrFun (newC_al (σ := σ) (c := 0) (c' := 0) hxa) 6).trans h6
    repeat (walk_at "st")
    refine q_putFC (e_dict0T fun l hl => ?_)
    repeat (walk_at "st")
    exact ⟨rfl, newSh_mk (b := some x) ▸ q a l ha hl⟩
theorem newSh_cl {σ : H} {a l : Addr} {n : Int} {b p : Option Addr} {k : Option Str} {f sz : Int} {op : Bool} {c' : Nat} (h : c' ≠ 0) : (σ.newSh a l n b p k f sz op).fld c' = σ.fld c' := funext fun _ => if_neg fun z => h z.1
theorem newSh_al {σ : H} {a l : Addr} {n : Int} {b p : Option Addr} {k : Option Str} {f sz : Int} {op : Bool} {c' : Nat} {a' : Addr} (h : a' ≠ a) : (σ.newSh a l n b p k f sz op).fld c' a' = σ.fld c' a' := if_neg fun z => h z.2
theorem newSh_at {σ : H} {a l : Addr} {n : Int} {b p : Option Addr} {k : Option Str} {f sz : Int} {op : Bool} : (σ.newSh a l n b p k f sz op).fld 0 a = shF n b p k f sz op l := if_pos ⟨rfl, rfl⟩
noncomputable def addS (S : SM) (a : Addr) (i : Sh) : SM := fun b => if b = a then some i else S b
theorem addS_self {S : SM} {a : Addr} {i : Sh} : addS S a i a = some i := if_pos rfl
theorem SI.fresh {σ : H} {tr ro : Addr} {N : Nat} {S : SM} (h : SI σ tr ro N S) {a : Addr} (ha : σ.nxt ≤ a) : S a = none := by
  cases e : S a with
  | none => rfl
  | some i => exact absurd (h.sh a i e).lt (Nat.not_lt.mpr ha)
theorem ext_add {S : SM} {a : Addr} {i : Sh} (h : S a = none) : Ext S (addS S a i) := fun b j hb => by
  have : b ≠ a := fun e => by rw [e, h] at hb; cases hb
  rw [addS, if_neg this]; exact hb
theorem SI.add {σ σ' : H} {tr ro : Addr} {N : Nat} {S : SM} (h : SI σ tr ro N S) {a : Addr} {i : Sh} {md : Int} (hmd : σ.fld 1 tr 11 = some (.int md)) (hi : i.num = md + 1) (hl : σ.nxt ≤ i.lat)
    (new : ShOk σ' (addS S a i) a i) (old : ∀ b j, S b = some j → ShOk σ' (addS S a i) b j)
    (h10 : σ'.fld 1 tr 10 = some (.int 4)) (h11 : σ'.fld 1 tr 11 = some (.int (md+1))) (h12 : σ'.fld 1 tr 12 = some (.ref (.dI 0) ro)) (h2 : σ'.fld 2 = σ.fld 2)
    (hro : ∀ e ∈ σ'.dI 0 ro, ∃ b j, e.2 = shv b ∧ addS S a i b = some j ∧ j.op = true ∧ j.rows = [] ∧ (e.1 = 0 ∧ j.pro = none ∨ ∃ p, σ.fld 2 p 0 = some (.int e.1) ∧ j.pro = some p))
    (hnd : ((σ'.dI 0 ro).map (·.1)).Nodup) (hn : σ.nxt ≤ σ'.nxt) : SI σ' tr ro N (addS S a i) := by
  obtain ⟨md', e, m0, m1, m2⟩ := h.t11
  rw [hmd] at e; cases e
  refine ⟨fun b j hb => ?_, fun b c j k hb hc e => ?_, fun b c j k hb hc e => ?_, h10, ⟨md + 1, h11, by exact pb11, fun b j hb => ?_, fun p n hp => ?_⟩, h12, by rw [h2]; exact hro, hnd, Nat.lt_of_lt_of_le h.rolt hn, Nat.lt_of_lt_of_le h.trlt hn, by rw [h2]; exact h.numinj, by rw [h2]; exact h.reg, h.n10⟩
  · by_cases q : b = a
    · subst q; rw [addS_self] at hb; cases hb; exact new
    · rw [addS, if_neg q] at hb; exact old b j hb
  · unfold addS at hb hc
    split at hb <;> split at hc
    · rename_i q1 q2; rw [q1, q2]
    · cases hb; have := m1 _ _ hc; omega
    · cases hc; have := m1 _ _ hb; omega
    · exact h.inj b c j k hb hc e
  · unfold addS at hb hc
    split at hb <;> split at hc
    · rename_i q1 q2; rw [q1, q2]
    · cases hb; exact absurd (e ▸ (h.sh _ _ hc).latlt) (Nat.not_lt.mpr hl)
    · cases hc; exact absurd (e ▸ (h.sh _ _ hb).latlt) (Nat.not_lt.mpr hl)
    · exact h.latinj b c j k hb hc e
  · unfold addS at hb
    split at hb
    · cases hb; exact pb14
    · have := m1 _ _ hb; exact pb11
  · rw [h2] at hp; have := m2 p n hp; omega
theorem ShOk.new {σ : H} {S : SM} {a : Addr} {i : Sh} (F : ∀ f, σ.fld 0 a f = shF i.num i.bef i.pro i.key i.flg i.rows.length i.op i.lat f) (D : σ.dT 0 i.lat = []) (l1 : a < σ.nxt) (l2 : i.lat < σ.nxt) (n0 : 0 < i.num) (g : GR i.rows)
    (bef : ∀ b, i.bef = some b → ∃ j, S b = some j ∧ j.num < i.num ∧ j.pro = i.pro ∧ j.op = true ∧ i.rows = j.rows ++ keyR i.key i.flg) (bef0 : i.bef = none → i.rows = [] ∧ i.key = none ∧ i.op = true) (ko : i.key ≠ none → i.op = true) : ShOk σ S a i :=
  ⟨F 0, F 1, F 2, F 3, F 4, F 5, F 6, F 7, .inl (F 8), .inl (F 9), l1, l2, n0, g, bef, bef0, ko, by rw [D]; exact fun _ h => (nomatch h), by rw [D]; exact List.nodup_nil⟩
theorem dput_mem {K α : Type} [DecidableEq K] {l : List (K × α)} {k : K} {v : α} {x : K × α} (hk : dget l k = none) (h : x ∈ dput l k v) : x ∈ l ∨ x = (k, v) := by
  rw [dput_new (dget_none.mp hk)] at h
  simpa using h
theorem dput_nodup {K α : Type} [DecidableEq K] {l : List (K × α)} {k : K} {v : α} (hk : dget l k = none) (h : (l.map (·.1)).Nodup) : ((dput l k v).map (·.1)).Nodup := by
  rw [dput_new (dget_none.mp hk), List.map_append, List.nodup_append]
  refine ⟨h, by simp, fun x hx y hy => ?_⟩
  simp only [List.map_cons, List.map_nil, List.mem_singleton] at hy
  subst hy
  exact fun e => dget_none.mp hk (e ▸ hx)
theorem dget_dput {K α : Type} [DecidableEq K] {l : List (K × α)} {k : K} {v : α} (hk : dget l k = none) : dget (dput l k v) k = some v := by
  rw [dput_new (dget_none.mp hk), dget_snoc (dget_none.mp hk)]
def pkey (σ : H) : Option Addr → Int → Prop
  | none, n => n = 0
  | some p, n => σ.fld 2 p 0 = some (.int n)
theorem sp_root {σ : H} {tr ro : Addr} {N : Nat} {S : SM} (h : SI σ tr ro N S) {p : Option Addr} {n : Int} (hp : pkey σ p n) {Q : V → H → Prop}
    (q : ∀ σ' S' b j, SI σ' tr ro N S' → Ext S S' → FrA σ σ' → S' b = some j → j.rows = [] → j.pro = p → j.op = true → Q (shv b) σ') : F_ShapeTree_root [.ref (.inst 1) tr, proV p] σ Q := by
  have key : ∀ e ∈ σ.dI 0 ro, e.1 = n → ∃ b j, e.2 = shv b ∧ S b = some j ∧ j.op = true ∧ j.rows = [] ∧ j.pro = p := fun e he en => by
    obtain ⟨b, j, h1, h2, h3, h4, h5⟩ := h.roots e he
    refine ⟨b, j, h1, h2, h3, h4, ?_⟩
    obtain ⟨_, _, _, _, m2⟩ := h.t11
    cases p with
    | none =>
      rcases h5 with h5 | ⟨p', h5, h6⟩
      · exact h5.2
      · have := (m2 _ _ h5).1
        have : n = 0 := hp
        omega
    | some p =>
      have hp : σ.fld 2 p 0 = some (.int n) := hp
      rcases h5 with h5 | ⟨p', h5, h6⟩
      · have := (m2 _ _ hp).1; omega
      · rw [h6, h.numinj p' p n (en ▸ h5) hp]
  have hit : ∀ w, dget (σ.dI 0 ro) n = some w → Q w σ := fun w hw => by
    obtain ⟨b, j, h1, h2, h3, h4, h5⟩ := key _ (dget_mem hw) rfl
    have h1 : w = shv b := h1
    rw [h1]
    exact q σ S b j h (.refl _) (.refl _) h2 h4 h5 h3
  have hlen : (σ.dI 0 ro).length ≤ 1000 := by
    obtain ⟨l, hl, hr⟩ := h.reg
    have := nodup_len (m := 0 :: l) h.rond (fun x hx => by
      obtain ⟨e, he, rfl⟩ := List.mem_map.mp hx
      obtain ⟨b, j, -, -, -, -, r⟩ := h.roots e he
      rcases r with r | ⟨p', r, -⟩
      · rw [r.1]; exact .head _
      · exact .tail _ (hr _ _ r))
    have := h.n10
    rw [List.length_map] at *
    simp only [List.length_cons] at *
    omega
  obtain ⟨md, hmd, m0, m1, m2⟩ := h.t11
  have hk2 : ∀ {a l : Addr} {v : V} {d : List (Int × V)} {c : Nat}, c ≠ 0 → c ≠ 1 → (((σ.setF 1 tr 11 v).newSh a l (md + 1) none p none 0 0 true).setI 0 ro d).fld c = σ.fld c := fun h0 h1 => (newSh_cl h0).trans (setF_cl h1)
  have hk1 : ∀ {a l : Addr} {v : V} {d : List (Int × V)} {f : Nat}, (((σ.setF 1 tr 11 v).newSh a l (md + 1) none p none 0 0 true).setI 0 ro d).fld 1 tr f = (σ.setF 1 tr 11 v).fld 1 tr f := fun {a l v d f} => congrFun (congrFun (newSh_cl (by decide) : ((σ.setF 1 tr 11 v).newSh a l (md + 1) none p none 0 0 true).fld 1 = _) tr) f
  have miss : dget (σ.dI 0 ro) n = none → ∀ a l, σ.nxt ≤ a → a < l → ∃ j, SI (((σ.setF 1 tr 11 (.int (md + 1))).newSh a l (md + 1) none p none 0 0 true).setI 0 ro (dput (σ.dI 0 ro) n (shv a))) tr ro N (addS S a j) ∧ j.rows = [] ∧ j.pro = p ∧ j.op = true := fun hn a l ha hl => by
    have hnk := dget_none.mp hn
    have hfr := h.fresh ha
    have hla : σ.nxt ≤ l := Nat.le_trans ha (Nat.le_of_lt hl)
    have ed : (((σ.setF 1 tr 11 (.int (md + 1))).newSh a l (md + 1) none p none 0 0 true).setI 0 ro (dput (σ.dI 0 ro) n (shv a))).dI 0 ro = dput (σ.dI 0 ro) n (shv a) := setI_at
    refine ⟨⟨md + 1, none, p, none, 0, [], true, l⟩, h.add hmd rfl hla (.new (fun f => congrFun newSh_at f) (show (if (0 : Nat) = 0 ∧ l = l then [] else σ.dT 0 l) = [] from if_pos ⟨rfl, rfl⟩) (Nat.lt_succ_of_lt hl) (Nat.lt_succ_self _) ?_ .nil (fun b e => nomatch e) (fun _ => ⟨rfl, rfl, rfl⟩) (fun z => absurd rfl z)) (fun b j hb => (h.sh b j hb).eqv (ext_add hfr) (Nat.le_succ_of_le hla) ?_ ?_ (fun _ _ => rfl)) ?_ ?_ ?_ (hk2 (by decide) (by decide)) ?_ ?_ (Nat.le_succ_of_le hla), rfl, rfl, rfl⟩
    · show 0 < md + 1; exact pb10
    · have hba : b ≠ a := fun e => by rw [e, hfr] at hb; cases hb
      exact (newSh_al hba).trans (congrFun (setF_cl (by decide) : (σ.setF 1 tr 11 (.int (md + 1))).fld 0 = σ.fld 0) b)
    · show (if (0 : Nat) = 0 ∧ j.lat = l then [] else σ.dT 0 j.lat) = _
      exact if_neg fun z => Nat.ne_of_lt (Nat.lt_of_lt_of_le (h.sh b j hb).latlt hla) z.2
    · exact hk1.trans ((setF_f (by decide)).trans h.t10)
    · exact hk1.trans setF_at
    · exact hk1.trans ((setF_f (by decide)).trans h.t12)
    · rw [ed]
      intro e he
      rcases dput_mem hn he with he | rfl
      · obtain ⟨b, j, h1, h2, r⟩ := h.roots e he
        exact ⟨b, j, h1, ext_add hfr _ _ h2, r⟩
      · refine ⟨a, _, rfl, addS_self, rfl, rfl, ?_⟩
        cases p with
        | none => exact .inl ⟨hp, rfl⟩
        | some p => exact .inr ⟨p, hp, rfl⟩
    · rw [ed]; exact dput_nodup hn h.rond
  have fra : ∀ a l, σ.nxt ≤ a → a < l → FrA σ (((σ.setF 1 tr 11 (.int (md + 1))).newSh a l (md + 1) none p none 0 0 true).setI 0 ro (dput (σ.dI 0 ro) n (shv a))) := fun a l ha hl =>
    ⟨Nat.le_trans ha (Nat.le_succ_of_le (Nat.le_of_lt hl)), fun c hc => hk2 (by exact pc5) (by exact pc5), fun _ _ _ => rfl, fun _ _ => rfl⟩
  have h12 := h.t12
  have go : ∀ ls : Ls, ls[0]? = some (some (.ref (.inst 1) tr)) → ls[1]? = some (some (proV p)) → ls[2]? = some (some (.int n)) → (sCons (sIf (tCmp fNotIn (pV 2) (pF (pV 0) 12)) (sCons (sPutI (pCall (fNew 0 F_Shape_init) (eCons (pMeth [(1, F_ShapeTree_next_number)] (pV 0) eNil) (eCons (pK .none) (eCons (pV 1) eNil)))) (pF (pV 0) 12) (pV 2)) sNil) sNil) (sCons (sRet (pSub (pF (pV 0) 12) (pV 2))) sNil)) ls σ (QF Q) := by
    intro ls e0 e1 e2
    have v0 : ∀ {s : H}, Ev (pV 0) ls s (.ref (.inst 1) tr) := Ev.var e0
    have v1 : ∀ {s : H}, Ev (pV 1) ls s (proV p) := Ev.var e1
    have v2 : ∀ {s : H}, Ev (pV 2) ls s (.int n) := Ev.var e2
    cases hn : dget (σ.dI 0 ro) n with
    | none =>
      refine q_ift (Et.niI v2 (Ev.fld v0 h12) (by rw [hn]; rfl)) (q_cons (q_putC (e_callC (el_cons (e_meth v0 rfl El.nil (sp_next hmd (el_val (El.cons Ev.con (El.cons v1 El.nil)) (e_cal (sp_shape_init (b := none) (sz := 0) (op := true) (fun x e => nomatch e) (fun _ => ⟨rfl, rfl⟩) fun a l ha hl => ?_)))))))))
      have g12 : ∀ {d : List (Int × V)}, (((σ.setF 1 tr 11 (.int (md + 1))).newSh a l (md + 1) none p none 0 0 true).setI 0 ro d).fld 1 tr 12 = some (.ref (.dI 0) ro) := hk1.trans ((setF_f (by decide)).trans h12)
      refine k_putI (Ev.fld v0 (g12 (d := []))) v2 hlen ?_
      with_reducible apply q_nil
      refine q_retF (Ev.subI (Ev.fld v0 g12) v2 (w := shv a) (by rw [setI_at]; exact dget_dput hn)) ?_
      obtain ⟨j, h1, h2, h3, h4⟩ := miss hn a l ha hl
      exact q _ _ a j h1 (ext_add (h.fresh ha)) (fra a l ha hl) addS_self h2 h3 h4
    | some w => exact q_iff (Et.niI v2 (Ev.fld v0 h12) (by rw [hn]; rfl)) (q_nil (q_retF (Ev.subI (Ev.fld v0 h12) v2 hn) (hit w hn)))
  refine q_def rfl ?_
  cases p with
  | none =>
    obtain rfl : n = 0 := hp
    walk_at "st"
    exact go _ rfl rfl rfl
  | some p =>
    have hp : σ.fld 2 p 0 = some (.int n) := hp
    walk_at "st"
    exact go _ rfl rfl rfl
end
section
set_option linter.unusedSimpArgs false
set_option maxHeartbeats 4000000
set_option maxRecDepth 10000
theorem ShOk.keep {σ σ' : H} {S S' : SM} {a : Addr} {i : Sh} (h : ShOk σ S a i) (e : Ext S S') (hn : σ.nxt ≤ σ'.nxt) (hf : ∀ f, f ≠ 8 → σ'.fld 0 a f = σ.fld 0 a f) (hs : ∀ d, d < σ.nxt → σ'.dS 0 d = σ.dS 0 d)
    (h8 : σ'.fld 0 a 8 = some .none ∨ ∃ b j, σ'.fld 0 a 8 = some (shv b) ∧ S' b = some j ∧ j.op = false ∧ j.rows = i.rows ∧ j.pro = i.pro)
    (lat : ∀ e ∈ σ'.dT 0 i.lat, e.1.1 ∈ abc ∧ 0 ≤ e.1.2 ∧ e.1.2 < 16 ∧ ∃ b j, e.2 = shv b ∧ S' b = some j ∧ j.pro = i.pro ∧ j.op = true ∧ j.rows = i.rows ++ [e.1])
    (latnd : ((σ'.dT 0 i.lat).map (·.1)).Nodup) : ShOk σ' S' a i where
  f0 := (hf 0 (by decide)).trans h.f0
  f1 := (hf 1 (by decide)).trans h.f1
  f2 := (hf 2 (by decide)).trans h.f2
  f3 := (hf 3 (by decide)).trans h.f3
  f4 := (hf 4 (by decide)).trans h.f4
  f5 := (hf 5 (by decide)).trans h.f5
  f6 := (hf 6 (by decide)).trans h.f6
  f7 := (hf 7 (by decide)).trans h.f7
  f8 := h8
  f9 := by rw [hf 9 (by decide)]; exact h.f9' hn hs
  lt := Nat.lt_of_lt_of_le h.lt hn
  latlt := Nat.lt_of_lt_of_le h.latlt hn
  num0 := h.num0
  good := h.good
  bef := fun b q => let ⟨j, h1, r⟩ := h.bef b q; ⟨j, e _ _ h1, r⟩
  bef0 := h.bef0
  keyop := h.keyop
  lat := lat
  latnd := latnd
theorem GR.snoc {r : Rw} (h : GR r) {x : Str} {f : Int} (hx : x ∉ r.map (·.1)) (ha : x ∈ abc) (h0 : 0 ≤ f) (h1 : f < 16) : GR (r ++ [(x, f)]) := by
  refine ⟨?_, fun y hy => ?_⟩
  · rw [List.map_append, List.nodup_append]
    refine ⟨h.1, List.nodup_cons.mpr ⟨List.not_mem_nil, List.nodup_nil⟩, fun a ha' b hb => ?_⟩
    obtain rfl := List.mem_singleton.mp hb
    exact fun e => hx (e ▸ ha')
  · rw [List.mem_append, List.mem_singleton] at hy
    rcases hy with hy | rfl
    · exact h.2 y hy
    · exact ⟨ha, h0, h1⟩
noncomputable def flgs : List Int := (List.range 16).map fun n => Int.ofNat n
theorem mem_flgs {f : Int} (h0 : 0 ≤ f) (h1 : f < 16) : f ∈ flgs := List.mem_map.mpr ⟨f.toNat, List.mem_range.mpr (by omega), Int.toNat_of_nonneg h0⟩
theorem ShOk.latlen {σ : H} {S : SM} {a : Addr} {i : Sh} (h : ShOk σ S a i) : (σ.dT 0 i.lat).length ≤ 1000 := by
  have := nodup_len (m := (abc.map fun x => flgs.map fun f => (x, f)).flatten) h.latnd (fun x hx => by
    obtain ⟨e, he, rfl⟩ := List.mem_map.mp hx
    obtain ⟨h1, h2, h3, -⟩ := h.lat e he
    rw [List.mem_flatten]
    refine ⟨flgs.map fun f => (e.1.1, f), List.mem_map.mpr ⟨_, h1, rfl⟩, List.mem_map.mpr ⟨_, mem_flgs h2 h3, rfl⟩⟩)
  rw [List.length_map] at this
  have e : ((abc.map fun x => flgs.map fun f => (x, f)).flatten).length = 48 := by rfl
  exact pc1
theorem setF_list {σ : H} {c k : Nat} {a : Addr} {v : V} {L : List V} (h : ∀ f, σ.fld c a f = L[f]?) (hk : k < L.length) (f : Nat) : (σ.setF c a k v).fld c a f = (L.set k v)[f]? := by
  by_cases e : f = k
  · subst e
    rw [setF_at, List.getElem?_set_self hk]
  · rw [setF_f e, h, List.getElem?_set_ne (Ne.symm e)]
theorem SI.child {σ τ : H} {tr ro : Addr} {N : Nat} {S : SM} (h : SI σ tr ro N S) {a b : Addr} {i n : Sh} {md : Int} (ha : S a = some i) (hb : σ.nxt ≤ b) (hl : b < n.lat) (hmd : σ.fld 1 tr 11 = some (.int md)) (hn : n.num = md + 1) (n1 : n.bef = some a) (n2 : n.pro = i.pro) (ho : i.op = true) (n3 : n.rows = i.rows ++ keyR n.key n.flg) (n4 : GR n.rows) (n5 : n.key ≠ none → n.op = true)
    (F : ∀ f, τ.fld 0 b f = shF n.num n.bef n.pro n.key n.flg n.rows.length n.op n.lat f) (D : τ.dT 0 n.lat = []) (f0 : ∀ c f, c ≠ b → f ≠ 8 → τ.fld 0 c f = σ.fld 0 c f) (f8 : ∀ c, c ≠ b → c ≠ a → τ.fld 0 c 8 = σ.fld 0 c 8)
    (a8 : τ.fld 0 a 8 = σ.fld 0 a 8 ∨ τ.fld 0 a 8 = some (shv b) ∧ n.op = false ∧ n.rows = i.rows) (fT : ∀ l, l ≠ n.lat → l ≠ i.lat → τ.dT 0 l = σ.dT 0 l)
    (aT : τ.dT 0 i.lat = σ.dT 0 i.lat ∨ ∃ k, dget (σ.dT 0 i.lat) k = none ∧ τ.dT 0 i.lat = dput (σ.dT 0 i.lat) k (shv b) ∧ n.op = true ∧ n.rows = i.rows ++ [k] ∧ k.1 ∈ abc ∧ 0 ≤ k.2 ∧ k.2 < 16)
    (dS : τ.dS 0 = σ.dS 0) (dI : τ.dI 0 = σ.dI 0) (t1 : ∀ f, f ≠ 11 → τ.fld 1 tr f = σ.fld 1 tr f) (t11 : τ.fld 1 tr 11 = some (.int (md + 1))) (f2 : τ.fld 2 = σ.fld 2) (nx : n.lat < τ.nxt) : SI τ tr ro N (addS S b n) := by
  have hfr := h.fresh hb
  have ex := ext_add (i := n) hfr
  have hla : σ.nxt ≤ n.lat := Nat.le_trans hb (Nat.le_of_lt hl)
  have hnx : σ.nxt ≤ τ.nxt := Nat.le_trans hla (Nat.le_of_lt nx)
  obtain ⟨md', e, m0, m1, m2⟩ := h.t11
  rw [hmd] at e
  cases e
  refine h.add hmd hn hla (.new F D (Nat.lt_trans hl nx) nx (by omega) n4 (fun c hc => ?_) (fun e => nomatch n1.symm.trans e) n5) (fun c j hc => ?_) ((t1 10 (by decide)).trans h.t10) t11 ((t1 12 (by decide)).trans h.t12) f2 ?_ (by rw [dI]; exact h.rond) hnx
  · rw [n1] at hc
    cases hc
    have := m1 _ _ ha
    exact ⟨i, ex _ _ ha, by omega, n2.symm, ho, n3⟩
  · have hcb : c ≠ b := fun e => by rw [e, hfr] at hc; cases hc
    have J := h.sh c j hc
    have old : ∀ e ∈ σ.dT 0 j.lat, e.1.1 ∈ abc ∧ 0 ≤ e.1.2 ∧ e.1.2 < 16 ∧ ∃ b' j', e.2 = shv b' ∧ addS S b n b' = some j' ∧ j'.pro = j.pro ∧ j'.op = true ∧ j'.rows = j.rows ++ [e.1] := fun e he => by
      obtain ⟨g1, g2, g3, b', j', g4, g5, g6⟩ := J.lat e he
      exact ⟨g1, g2, g3, b', j', g4, ex _ _ g5, g6⟩
    by_cases q : c = a
    · subst q
      obtain rfl : i = j := Option.some.inj (ha.symm.trans hc)
      refine J.keep ex hnx (fun f hf => f0 c f hcb hf) (fun _ _ => congrFun dS _) ?_ ?_ ?_
      · rcases a8 with e | ⟨e, o, r⟩
        · rw [e]; exact J.f8' ex
        · exact .inr ⟨b, n, e, addS_self, o, r, n2⟩
      · rcases aT with e | ⟨k, hk, e, o, r, k1⟩
        · rw [e]; exact old
        · rw [e]
          intro x hx
          rcases dput_mem hk hx with hx | rfl
          · exact old x hx
          · exact ⟨k1.1, k1.2.1, k1.2.2, b, n, rfl, addS_self, n2, o, r⟩
      · rcases aT with e | ⟨k, hk, e, -⟩
        · rw [e]; exact J.latnd
        · rw [e]; exact dput_nodup hk J.latnd
    · have el : τ.dT 0 j.lat = σ.dT 0 j.lat := fT _ (Nat.ne_of_lt (Nat.lt_of_lt_of_le J.latlt hla)) fun e => q (h.latinj _ _ _ _ hc ha e)
      exact J.keep ex hnx (fun f hf => f0 c f hcb hf) (fun _ _ => congrFun dS _) (by rw [f8 c hcb q]; exact J.f8' ex) (by rw [el]; exact old) (by rw [el]; exact J.latnd)
  · rw [dI]
    intro e he
    obtain ⟨b', j', g1, g2, r⟩ := h.roots e he
    exact ⟨b', j', g1, ex _ _ g2, r⟩
theorem sp_added {σ : H} {tr ro : Addr} {N : Nat} {S : SM} (h : SI σ tr ro N S) {a : Addr} {i : Sh} (ha : S a = some i) (ho : i.op = true) {x : Str} {f : Int} (hx : x ∉ i.rows.map (·.1)) (hxa : x ∈ abc) (hf0 : 0 ≤ f) (hf1 : f < 16) {Q : V → H → Prop}
    (q : ∀ σ' S' b j, SI σ' tr ro N S' → Ext S S' → FrA σ σ' → (∀ k c, σ'.lst k c = σ.lst k c) → S' b = some j → j.rows = i.rows ++ [(x, f)] → j.pro = i.pro → j.op = true → Q (shv b) σ') : F_ShapeTree_added [.ref (.inst 1) tr, shv a, .str x, .int f] σ Q := by
  have I := h.sh a i ha
  obtain ⟨md, hmd, m0, m1, m2⟩ := h.t11
  have f7 := I.f7
  have f5 := I.f5
  have f2 := I.f2
  refine q_def rfl ?_
  walk_at "st"
  cases hn : dget (σ.dT 0 i.lat) (x, f) with
  | none =>
    refine q_ift (Et.niT (by walk_at "ev") (by walk_at "ev") (by rw [hn]; rfl)) (q_cons (q_setC (e_callC (el_cons (e_meth (by walk_at "ev") rfl El.nil (sp_next hmd (el_val (by walk_at "ev") (e_cal (sp_shape_init (b := some a) (sz := i.rows.length) (op := i.op) (fun y e => ?_) (fun e => nomatch e) fun b l hb hl => ?_)))))))))
    · cases e
      exact ⟨I.lt, (setF_c (by decide)).trans f5, (setF_c (by decide)).trans I.f6⟩
    · have hla : σ.nxt ≤ l := Nat.le_trans hb (Nat.le_of_lt hl)
      have hab : a ≠ b := Nat.ne_of_lt (Nat.lt_of_lt_of_le I.lt hb)
      have hll : i.lat ≠ l := Nat.ne_of_lt (Nat.lt_of_lt_of_le I.latlt hla)
      have ga : ∀ c f', c ≠ b → ((σ.setF 1 tr 11 (.int (md + 1))).newSh b l (md + 1) (some a) i.pro none 0 i.rows.length i.op).fld 0 c f' = σ.fld 0 c f' := fun c f' e => (congrFun (newSh_al e) f').trans (setF_c (by decide))
      have g5 := (ga a 5 hab).trans f5
      have g7 := (ga a 7 hab).trans f7
      have gT : ((σ.setF 1 tr 11 (.int (md + 1))).newSh b l (md + 1) (some a) i.pro none 0 i.rows.length i.op).dT 0 i.lat = σ.dT 0 i.lat := if_neg fun z => hll z.2
      have kc : ∀ c, c ≠ 0 → (((((σ.setF 1 tr 11 (.int (md + 1))).newSh b l (md + 1) (some a) i.pro none 0 i.rows.length i.op).setF 0 b 3 (.str x)).setF 0 b 4 (.int f)).setF 0 b 5 (.int (i.rows.length + 1))).fld c = (σ.setF 1 tr 11 (.int (md + 1))).fld c := fun c e => (setF_cl e).trans ((setF_cl e).trans ((setF_cl e).trans (newSh_cl e)))
      have ka : ∀ c f', c ≠ b → (((((σ.setF 1 tr 11 (.int (md + 1))).newSh b l (md + 1) (some a) i.pro none 0 i.rows.length i.op).setF 0 b 3 (.str x)).setF 0 b 4 (.int f)).setF 0 b 5 (.int (i.rows.length + 1))).fld 0 c f' = σ.fld 0 c f' := fun c f' e => (setF_a e).trans ((setF_a e).trans ((setF_a e).trans (ga c f' e)))
      have g7 := (ka a 7 hab).trans f7
      repeat (walk_at "st")
      refine q_putT (by walk_at "ev") (by walk_at "ev") (by walk_at "ev") (Nat.le_trans (Nat.le_of_eq (congrArg List.length gT)) I.latlen) ?_
      walk_at "st"
      refine q_retF (Ev.subT (w := shv b) (by walk_at "ev") (by walk_at "ev") (by rw [setT_at]; exact dget_dput (gT.symm ▸ hn))) ?_
      refine q _ (addS S b ⟨md + 1, some a, i.pro, some x, f, i.rows ++ [(x, f)], true, l⟩) b _ (h.child ha hb hl hmd rfl rfl rfl ho rfl (I.good.snoc hx hxa hf0 hf1) (fun _ => rfl) (fun f' => ?_) ((setT_a (Ne.symm hll)).trans (if_pos ⟨rfl, rfl⟩)) (fun c f' hc _ => ka c f' hc) (fun c hc _ => ka c 8 hc) (.inl (ka a 8 hab)) (fun l' h1 h2 => (setT_a h2).trans (if_neg fun z => h1 z.2)) (.inr ⟨(x, f), hn, setT_at.trans (congrArg (fun d => dput d (x, f) (shv b)) gT), rfl, rfl, hxa, hf0, hf1⟩) rfl rfl (fun f' hf' => (congrFun (congrFun (kc 1 (by decide)) tr) f').trans (setF_f hf')) ((congrFun (congrFun (kc 1 (by decide)) tr) 11).trans setF_at) ((kc 2 (by decide)).trans (setF_cl (by decide))) (Nat.lt_succ_self _)) (ext_add (h.fresh hb)) ⟨Nat.le_succ_of_le hla, fun c hc => (kc c (by exact pc5)).trans (setF_cl (by exact pc5)), fun _ _ _ => rfl, fun _ _ => rfl⟩ (fun _ _ => rfl) addS_self rfl rfl rfl
      refine (setF_list (setF_list (setF_list (fun f => congrFun newSh_at f) (Nat.le_of_ble_eq_true rfl)) (Nat.le_of_ble_eq_true rfl)) (Nat.le_of_ble_eq_true rfl) f').trans ?_
      rw [ho, List.length_append]; rfl
  | some w =>
    obtain ⟨-, -, -, b, j, h1, h2, h3, h4, h5⟩ := I.lat _ (dget_mem hn)
    obtain rfl : w = shv b := h1
    refine q_iff (Et.niT (by walk_at "ev") (by walk_at "ev") (by rw [hn]; rfl)) (q_nil (q_retF (Ev.subT (by walk_at "ev") (by walk_at "ev") hn) ?_))
    exact q σ S b j h (.refl _) (.refl _) (fun _ _ => rfl) h2 h5 h3 h4
theorem sp_shut {σ : H} {tr ro : Addr} {N : Nat} {S : SM} (h : SI σ tr ro N S) {a : Addr} {i : Sh} (ha : S a = some i) {Q : V → H → Prop}
    (q : ∀ σ' S' b j, SI σ' tr ro N S' → Ext S S' → FrA σ σ' → (∀ k c, σ'.lst k c = σ.lst k c) → S' b = some j → j.rows = i.rows → j.pro = i.pro → j.op = false → Q (shv b) σ') : F_ShapeTree_shut [.ref (.inst 1) tr, shv a] σ Q := by
  have I := h.sh a i ha
  obtain ⟨md, hmd, m0, m1, m2⟩ := h.t11
  have f6 := I.f6
  have f2 := I.f2
  refine q_def rfl ?_
  cases ho : i.op with
  | false =>
    rw [ho] at f6
    repeat (walk_at "st")
    exact q σ S a i h (.refl _) (.refl _) (fun _ _ => rfl) ha rfl rfl ho
  | true =>
    rw [ho] at f6
    rcases I.f8 with e8 | ⟨b, j, e8, hb, j1, j2, j3⟩
    · repeat (walk_at "st")
      refine q_putFC (e_callC (el_cons (e_meth (by walk_at "ev") rfl El.nil (sp_next hmd (el_val (by walk_at "ev") (e_cal (sp_shape_init (b := some a) (sz := i.rows.length) (op := true) (fun y e => ?_) (fun e => nomatch e) fun b l hb hl => ?_)))))))
      · cases e
        exact ⟨I.lt, (setF_c (by decide)).trans I.f5, (setF_c (by decide)).trans f6⟩
      · have hla : σ.nxt ≤ l := Nat.le_trans hb (Nat.le_of_lt hl)
        have hab : a ≠ b := Nat.ne_of_lt (Nat.lt_of_lt_of_le I.lt hb)
        have ga : ∀ c f', c ≠ b → ((σ.setF 1 tr 11 (.int (md + 1))).newSh b l (md + 1) (some a) i.pro none 0 i.rows.length true).fld 0 c f' = σ.fld 0 c f' := fun c f' e => (congrFun (newSh_al e) f').trans (setF_c (by decide))
        repeat (walk_at "st")
        refine q _ (addS S b ⟨md + 1, some a, i.pro, none, 0, i.rows, false, l⟩) b _ (h.child ha hb hl hmd rfl rfl rfl ho (List.append_nil _).symm I.good (fun z => absurd rfl z) (fun f' => ?_) (if_pos ⟨rfl, rfl⟩) (fun c f' hc h8 => ?_) (fun c hc hca => ?_) (.inr ⟨?_, rfl, rfl⟩) (fun l' h1 h2 => if_neg fun z => h1 z.2) (.inl (if_neg fun z => Nat.ne_of_lt (Nat.lt_of_lt_of_le I.latlt hla) z.2)) rfl rfl (fun f' hf' => ?_) ?_ ?_ (Nat.lt_succ_self _)) (ext_add (h.fresh hb)) ⟨Nat.le_succ_of_le hla, fun c hc => ?_, fun _ _ _ => rfl, fun _ _ => rfl⟩ (fun _ _ => rfl) addS_self rfl rfl rfl
        · exact setF_list (fun f => (setF_a (Ne.symm hab)).trans (congrFun newSh_at f)) (Nat.le_of_ble_eq_true rfl) f'
        · exact (setF_a hc).trans ((setF_f h8).trans (ga c f' hc))
        · exact (setF_a hc).trans ((setF_a hca).trans (ga c 8 hc))
        · exact (setF_a hab).trans setF_at
        · exact (setF_c (by decide)).trans ((setF_c (by decide)).trans ((congrFun (congrFun (newSh_cl (by decide)) tr) f').trans (setF_f hf')))
        · exact (setF_c (by decide)).trans ((setF_c (by decide)).trans ((congrFun (congrFun (newSh_cl (by decide)) tr) 11).trans setF_at))
        · exact (setF_cl (by decide)).trans ((setF_cl (by decide)).trans ((newSh_cl (by decide)).trans (setF_cl (by decide))))
        · exact (setF_cl (by exact pc5)).trans ((setF_cl (by exact pc5)).trans ((newSh_cl (by exact pc5)).trans (setF_cl (by exact pc5))))
    · repeat (walk_at "st")
      exact q σ S b j h (.refl _) (.refl _) (fun _ _ => rfl) hb j2 j3 j1
end
section
set_option linter.unusedSimpArgs false
set_option maxHeartbeats 4000000
set_option maxRecDepth 10000
theorem FrA.eq {σ σ' : H} (h : FrA σ σ') : σ'.fld 2 = σ.fld 2 := h.fld 2 (Nat.le_refl _)
theorem pkey.fr {σ σ' : H} (h : FrA σ σ') {p : Option Addr} {n : Int} (hp : pkey σ p n) : pkey σ' p n := by
  cases p with
  | none => exact hp
  | some p => show σ'.fld 2 p 0 = _; rw [h.eq]; exact hp
theorem GR.mid {r s : Rw} {x : Str × Int} (h : GR (r ++ x :: s)) : x.1 ∉ r.map (·.1) ∧ x.1 ∈ abc ∧ 0 ≤ x.2 ∧ x.2 < 16 := by
  have m : x ∈ r ++ x :: s := List.mem_append_right _ (.head _)
  refine ⟨fun e => ?_, h.2 x m⟩
  have := h.1
  rw [List.map_append, List.nodup_append] at this
  exact this.2.2 _ e x.1 (.head _) rfl
noncomputable abbrev builtB : S1 := sCons (sSet 4 (pMeth [(1, F_ShapeTree_added)] (pV 0) (eCons (pV 4) (eCons (pV 5) (eCons (pV 6) eNil))))) sNil
theorem built_loop {tr ro : Addr} {N : Nat} {c : Addr} {p : Option Addr} {v1 v2 v3 : V} : ∀ (r pre : Rw) (σ : H) (S : SM) (b : Addr) (j : Sh) (Q : Fl → Ls → H → Prop) (l5 l6 : Option V), SI σ tr ro N S → S b = some j → j.rows = pre → j.pro = p → j.op = true → GR (pre ++ r) → σ.lst 0 c = (pre ++ r).map rowV →
    (∀ σ' S' b' j' l5 l6, SI σ' tr ro N S' → Ext S S' → FrA σ σ' → (∀ k c, σ'.lst k c = σ.lst k c) → S' b' = some j' → j'.rows = pre ++ r → j'.pro = p → j'.op = true → Q .next [some (.ref (.inst 1) tr), some v1, some v2, some v3, some (shv b'), l5, l6] σ') →
    forL (aTup 2 (asCons (aVar 5) (asCons (aVar 6) asNil))) builtB (r.map rowV) (.lst 0 c pre.length) [some (.ref (.inst 1) tr), some v1, some v2, some v3, some (shv b), l5, l6] σ Q := by
  intro r
  induction r with
  | nil =>
    intro pre σ S b j Q l5 l6 h hb h1 h2 h3 hg hl q
    exact q σ S b j l5 l6 h (.refl _) (.refl _) (fun _ _ => rfl) hb (by rw [h1, List.append_nil]) h2 h3
  | cons x r ih =>
    intro pre σ S b j Q l5 l6 h hb h1 h2 h3 hg hl q
    obtain ⟨x, f⟩ := x
    subst h1
    obtain ⟨g1, g2, g3, g4⟩ := hg.mid
    refine f_tup2 (q_setC (e_meth (by walk_at "ev") rfl (by walk_at "ev") (sp_added h hb h3 g1 g2 g3 g4 fun σ' S' b' j' H e F L hb' r1 r2 r3 => f_end ?_ trivial ?_)))
    · show (σ'.lst 0 c).drop (j.rows.length + 1) = _
      rw [L, hl, List.map_append, List.drop_append, List.drop_eq_nil_of_le (by rw [List.length_map]; exact pa7), List.length_map, Nat.add_sub_cancel_left]
      rfl
    · have := ih (j.rows ++ [(x, f)]) σ' S' b' j' Q (some (.str x)) (some (.int f)) H hb' r1 (r2.trans h2) r3 (by rw [List.append_assoc]; exact hg) (by rw [L, hl, List.append_assoc]; rfl) fun σ2 S2 b2 j2 m5 m6 H2 e2 F2 L2 hb2 s1 s2 s3 => q σ2 S2 b2 j2 m5 m6 H2 (e.trans e2) (F.trans F2) (fun k c => (L2 k c).trans (L k c)) hb2 (by rw [s1, List.append_assoc]; rfl) s2 s3
      rw [List.length_append] at this
      exact this
theorem sp_built {σ : H} {tr ro : Addr} {N : Nat} {S : SM} (h : SI σ tr ro N S) {c : Addr} {r : Rw} (hc : c < σ.nxt) (hl : σ.lst 0 c = r.map rowV) (hr : GR r) {p : Option Addr} {n : Int} (hp : pkey σ p n) {op : Bool} {Q : V → H → Prop}
    (q : ∀ σ' S' b j, SI σ' tr ro N S' → Ext S S' → FrA σ σ' → S' b = some j → j.rows = r → j.pro = p → j.op = op → Q (shv b) σ') : F_ShapeTree_built [.ref (.inst 1) tr, .ref (.lst 0) c, proV p, .bool op] σ Q := by
  refine q_def rfl (q_setC (e_meth (by walk_at "ev") rfl (by walk_at "ev") (sp_root h hp fun σ1 S1 b1 j1 H1 e1 F1 hb1 r1 p1 o1 => q_forL (by walk_at "ev") ?_)))
  have hl1 : σ1.lst 0 c = r.map rowV := (F1.lst 0 c fun _ => hc).trans hl
  rw [hl1]
  refine built_loop r [] σ1 S1 b1 j1 _ _ _ H1 hb1 r1 p1 o1 hr hl1 fun σ2 S2 b2 j2 l5 l6 H2 e2 F2 L2 hb2 r2 p2 o2 => ?_
  cases op with
  | true =>
    repeat (walk_at "st")
    exact q σ2 S2 b2 j2 H2 (e1.trans e2) (F1.trans F2) hb2 r2 p2 o2
  | false =>
    refine q_retFC (e_iff (by walk_at "ev") (e_meth (by walk_at "ev") rfl (by walk_at "ev") (sp_shut H2 hb2 fun σ3 S3 b3 j3 H3 e3 F3 L3 hb3 r3 p3 o3 => ?_)))
    exact q σ3 S3 b3 j3 H3 ((e1.trans e2).trans e3) ((F1.trans F2).trans F3) hb3 (r3.trans r2) (p3.trans p2) o3
end
section
set_option linter.unusedSimpArgs false
set_option maxHeartbeats 4000000
set_option maxRecDepth 10000
set_option genInjectivity false in
structure OA where
  rows : R3
  abv : Bool
  op : Bool
set_option genInjectivity false in
structure Wd where
  tr : Addr
  ro : Addr
  S : SM
  m : Nat
  st : Nat → Addr
  A : Nat → OA
  al : Nat → Bool
  sp : Nat → Addr
noncomputable def Wd.pro (W : Wd) (k : Nat) : Option Addr := if (W.A k).abv then some (W.st (k - 1)) else none
noncomputable def kf (x : Str × Int × V) : Str × Int := (x.1, x.2.1)
noncomputable def kp (x : Str × Int × V) : Str × V := (x.1, .p2 (.int x.2.1) x.2.2)
noncomputable def r3V (x : Str × Int × V) : V := .p3 (.str x.1) (.int x.2.1) x.2.2
noncomputable def find3 : R3 → Str → Option (Int × V)
  | [], _ => none
  | (k, f, v) :: r, x => if k = x then some (f, v) else find3 r x
noncomputable def fvV : Option (Int × V) → V | none => .none | some p => .p2 (.int p.1) p.2
structure StOk (σ : H) (tr : Addr) (S : SM) (p : Addr) (R : R3) (pro : Option Addr) (op al : Bool) (sp : Addr) : Prop where
  num : ∃ n, σ.fld 2 p 0 = some (.int n)
  f13 : σ.fld 2 p 13 = some (.ref (.inst 1) tr)
  f17 : σ.fld 2 p 17 = some (.bool al)
  f16 : ∃ t, σ.fld 2 p 16 = some (.ref (.dS 1) t)
  lt : p < σ.nxt
  good : GR3 R
  alone : al = true → σ.fld 2 p 18 = some (proV pro) ∧ σ.fld 2 p 19 = some (.bool op) ∧ ∀ t, σ.fld 2 p 16 = some (.ref (.dS 1) t) → (σ.dS 1 t).1 = R.map kp
  shared : al = false → σ.fld 2 p 14 = some (shv sp) ∧ (∃ i, S sp = some i ∧ i.rows = R.map kf ∧ i.op = op ∧ i.pro = pro) ∧ (∃ s, σ.fld 2 p 15 = some (.ref (.lst 1) s) ∧ σ.lst 1 s = R.map (·.2.2)) ∧
    ∀ t, σ.fld 2 p 16 = some (.ref (.dS 1) t) → (σ.dS 1 t).1 = []
structure BI (σ : H) (W : Wd) : Prop where
  si : SI σ W.tr W.ro W.m W.S
  st : ∀ k, k < W.m → StOk σ W.tr W.S (W.st k) (W.A k).rows (W.pro k) (W.A k).op (W.al k) (W.sp k)
  inj : ∀ k l, k < W.m → l < W.m → W.st k = W.st l → k = l
  i16 : ∀ p q t, σ.fld 2 p 16 = some (.ref (.dS 1) t) → σ.fld 2 q 16 = some (.ref (.dS 1) t) → p = q
  i15 : ∀ p q t, σ.fld 2 p 15 = some (.ref (.lst 1) t) → σ.fld 2 q 15 = some (.ref (.lst 1) t) → p = q
  l16 : ∀ p t, σ.fld 2 p 16 = some (.ref (.dS 1) t) → t < σ.nxt
  l15 : ∀ p t, σ.fld 2 p 15 = some (.ref (.lst 1) t) → t < σ.nxt
  abv : ∀ k, k < W.m → (W.A k).abv = true → 0 < k
  m4 : W.m ≤ 4
  l2 : ∀ p f v, σ.fld 2 p f = some v → p < σ.nxt
structure FrB (σ σ' : H) : Prop where
  nxt : σ.nxt ≤ σ'.nxt
  fld : ∀ c, 3 ≤ c → σ'.fld c = σ.fld c
  lst : ∀ k, 3 ≤ k → σ'.lst k = σ.lst k
  dS : ∀ k, 2 ≤ k → σ'.dS k = σ.dS k
theorem FrB.refl (σ : H) : FrB σ σ := ⟨Nat.le_refl _, fun _ _ => rfl, fun _ _ => rfl, fun _ _ => rfl⟩
theorem FrB.trans {a b c : H} (x : FrB a b) (y : FrB b c) : FrB a c :=
  ⟨Nat.le_trans x.nxt y.nxt, fun c h => (y.fld c h).trans (x.fld c h), fun k h => (y.lst k h).trans (x.lst k h), fun k h => (y.dS k h).trans (x.dS k h)⟩
theorem FrA.b {σ σ' : H} (h : FrA σ σ') : FrB σ σ' := ⟨h.nxt, fun c hc => h.fld c (by exact pc7), fun k hk => by funext a; exact h.lst k a (by omega), fun k hk => h.dS k (by exact pc7)⟩
structure FrR (σ σ' : H) : Prop extends FrB σ σ' where
  f2 : σ'.fld 2 = σ.fld 2
  l1 : σ'.lst 1 = σ.lst 1
  d1 : σ'.dS 1 = σ.dS 1
theorem FrR.refl (σ : H) : FrR σ σ := ⟨.refl _, rfl, rfl, rfl⟩
theorem FrR.trans {a b c : H} (x : FrR a b) (y : FrR b c) : FrR a c := ⟨x.toFrB.trans y.toFrB, y.f2.trans x.f2, y.l1.trans x.l1, y.d1.trans x.d1⟩
theorem FrA.r {σ σ' : H} (h : FrA σ σ') : FrR σ σ' := ⟨h.b, h.fld 2 (by decide), by funext a; exact h.lst 1 a (by omega), h.dS 1 (by decide)⟩
theorem StOk.mono {σ σ' : H} {tr : Addr} {S S' : SM} {p : Addr} {R : R3} {pro : Option Addr} {op al : Bool} {sp : Addr} (h : StOk σ tr S p R pro op al sp) (e : Ext S S') (hn : σ.nxt ≤ σ'.nxt) (hf : σ'.fld 2 p = σ.fld 2 p)
    (hS : ∀ t, σ.fld 2 p 16 = some (.ref (.dS 1) t) → σ'.dS 1 t = σ.dS 1 t) (hl : ∀ t, σ.fld 2 p 15 = some (.ref (.lst 1) t) → σ'.lst 1 t = σ.lst 1 t) : StOk σ' tr S' p R pro op al sp where
  num := by rw [hf]; exact h.num
  f13 := by rw [hf]; exact h.f13
  f17 := by rw [hf]; exact h.f17
  f16 := by rw [hf]; exact h.f16
  lt := Nat.lt_of_lt_of_le h.lt hn
  good := h.good
  alone := fun q => by
    rw [hf]
    obtain ⟨a, b, c⟩ := h.alone q
    exact ⟨a, b, fun t ht => by rw [hS t ht]; exact c t ht⟩
  shared := fun q => by
    rw [hf]
    obtain ⟨a, ⟨i, b1, b2⟩, ⟨s, c1, c2⟩, d⟩ := h.shared q
    exact ⟨a, ⟨i, e _ _ b1, b2⟩, ⟨s, c1, by rw [hl s c1]; exact c2⟩, fun t ht => by rw [hS t ht]; exact d t ht⟩
theorem BI.read {σ σ' : H} {W : Wd} (h : BI σ W) (F : FrR σ σ') (si : SI σ' W.tr W.ro W.m W.S) : BI σ' W where
  si := si
  st := fun k hk => (h.st k hk).mono (.refl _) F.nxt (by rw [F.f2]) (fun t _ => by rw [F.d1]) fun t _ => by rw [F.l1]
  inj := h.inj
  i16 := by rw [F.f2]; exact h.i16
  i15 := by rw [F.f2]; exact h.i15
  l16 := by rw [F.f2]; exact fun p t q => Nat.lt_of_lt_of_le (h.l16 p t q) F.nxt
  l15 := by rw [F.f2]; exact fun p t q => Nat.lt_of_lt_of_le (h.l15 p t q) F.nxt
  abv := h.abv
  m4 := h.m4
  l2 := by rw [F.f2]; exact fun p f v q => Nat.lt_of_lt_of_le (h.l2 p f v q) F.nxt
theorem find3_dget : ∀ (R : R3) (x : Str), (dget (R.map kp) x).getD .none = fvV (find3 R x)
  | [], _ => rfl
  | (k, f, v) :: r, x => by
    have ih := find3_dget r x
    unfold dget at ih ⊢
    unfold find3
    by_cases h : k = x
    · simp [h, kp, fvV]
    · simp only [List.map_cons, List.find?_cons, kp, h, decide_false, if_false]; exact ih
theorem idx3_none : ∀ {R : R3} {n : Nat} {x : Str}, idxR n (R.map kf) x = none ↔ find3 R x = none
  | [], n, x => by simp [idxR, find3]
  | (k, f, v) :: r, n, x => by
    simp only [List.map_cons, kf, idxR, find3]
    by_cases h : k = x
    · simp [h]
    · rw [if_neg h, if_neg h]; exact idx3_none (R := r)
theorem idx3_some : ∀ {R : R3} {n i : Nat} {x : Str} {f : Int}, idxR n (R.map kf) x = some (i, f) → ∃ j v, i = n + j ∧ R[j]? = some (x, f, v) ∧ find3 R x = some (f, v)
  | [], n, i, x, f, e => by simp [idxR] at e
  | (k, g, v) :: r, n, i, x, f, e => by
    simp only [List.map_cons, kf, idxR, find3] at e ⊢
    by_cases h : k = x
    · rw [if_pos h] at e; cases e; exact ⟨0, v, rfl, by rw [h]; rfl, by rw [if_pos h]⟩
    · rw [if_neg h] at e
      obtain ⟨j, v', rfl, hj, hf⟩ := idx3_some (R := r) e
      exact ⟨j + 1, v', by exact pa5, by simpa using hj, by rw [if_neg h]; exact hf⟩
theorem find3_keys : ∀ {R : R3} {x : Str}, find3 R x = none ↔ x ∉ R.map (·.1)
  | [], x => by simp [find3]
  | (k, f, v) :: r, x => by
    unfold find3
    by_cases h : k = x
    · simp [h]
    · rw [if_neg h, find3_keys (R := r)]
      simp only [List.map_cons, List.mem_cons, not_or]
      exact ⟨fun q => ⟨fun e => h e.symm, q⟩, fun q => q.2⟩
section
variable {σ : H} {W : Wd} (h : BI σ W) {k : Nat} (hk : k < W.m) {Q : V → H → Prop}
include h hk
theorem sp_above (q : Q (proV (W.pro k)) σ) : F_Store_above [stv (W.st k)] σ Q := by
  have T := h.st k hk
  have f17 := T.f17
  refine q_def rfl ?_
  cases ha : W.al k with
  | true =>
    rw [ha] at f17
    have f18 := (T.alone ha).1
    repeat (walk_at "st")
    exact q
  | false =>
    rw [ha] at f17
    obtain ⟨f14, ⟨i, hi, -, -, ip⟩, -, -⟩ := T.shared ha
    have f2 := (h.si.sh _ _ hi).f2
    rw [ip] at f2
    repeat (walk_at "st")
    exact q
theorem sp_can_grow (q : Q (.bool (W.A k).op) σ) : F_Store_can_grow [stv (W.st k)] σ Q := by
  have T := h.st k hk
  have f17 := T.f17
  refine q_def rfl ?_
  cases ha : W.al k with
  | true =>
    rw [ha] at f17
    have f19 := (T.alone ha).2.1
    repeat (walk_at "st")
    exact q
  | false =>
    rw [ha] at f17
    obtain ⟨f14, ⟨i, hi, -, io, -⟩, -, -⟩ := T.shared ha
    have f6 := (h.si.sh _ _ hi).f6
    rw [io] at f6
    repeat (walk_at "st")
    exact q
theorem sp_find (x : Str) (q : ∀ σ', BI σ' W → FrR σ σ' → Q (fvV (find3 (W.A k).rows x)) σ') : F_Store_find [stv (W.st k), .str x] σ Q := by
  have T := h.st k hk
  have f17 := T.f17
  refine q_def rfl ?_
  cases ha : W.al k with
  | true =>
    rw [ha] at f17
    obtain ⟨t, f16⟩ := T.f16
    refine q_ift (by walk_at "ev") (q_cons (q_retF (Ev.get (by walk_at "ev") (by walk_at "ev") (by rw [(T.alone ha).2.2 t f16, find3_dget])) ?_))
    exact q σ h (.refl _)
  | false =>
    rw [ha] at f17
    obtain ⟨f14, ⟨i, hi, ir, io, -⟩, ⟨s, f15, hs⟩, -⟩ := T.shared ha
    repeat (walk_at "st")
    refine q_setC (e_meth (by walk_at "ev") rfl (by walk_at "ev") (sp_place h.si hi x fun σ' H F => ?_))
    have hB := h.read F.r H
    rw [ir]
    have q := q σ' hB F.r
    cases hx : idxR 0 ((W.A k).rows.map kf) x with
    | none =>
      rw [idx3_none.mp hx] at q
      repeat (walk_at "st")
      exact q
    | some p =>
      obtain ⟨n, f⟩ := p
      obtain ⟨j, v, hn, hj, hf⟩ := idx3_some hx
      rw [Nat.zero_add] at hn
      subst hn
      have f15' : σ'.fld 2 (W.st k) 15 = some (.ref (.lst 1) s) := by rw [F.eq]; exact f15
      have hlen := T.good.len
      have hj' : n < (W.A k).rows.length := (List.getElem?_eq_some_iff.mp hj).1
      rw [hf] at q
      refine q_retF (Ev.iff (by walk_at "ev") (Ev.tup2 (El.cons (by walk_at "ev") (El.cons (Ev.subL (by walk_at "ev") (by walk_at "ev") ⟨by exact pa1, by exact pd3⟩ (w := v) ?_) El.nil)))) q
      rw [F.r.l1, hs, List.getElem?_map, show (((n : Nat) : Int)).toNat = n from rfl, hj]; rfl
end
end
section
set_option linter.unusedSimpArgs false
set_option maxHeartbeats 4000000
set_option maxRecDepth 10000
theorem GR3.nd {R : R3} (h : GR3 R) : (R.map (·.1)).Nodup := by have := h.1.1; rwa [List.map_map] at this
theorem find3_mid : ∀ {pre r : R3} {k : Str} {f : Int} {v : V}, ((pre ++ (k, f, v) :: r).map (·.1)).Nodup → find3 (pre ++ (k, f, v) :: r) k = some (f, v)
  | [], r, k, f, v, _ => by simp [find3]
  | (k', f', v') :: pre, r, k, f, v, nd => by
    have nd' := List.nodup_cons.mp nd
    have : k' ≠ k := fun e => nd'.1 (by simp [e])
    show (if k' = k then _ else _) = _
    rw [if_neg this]
    exact find3_mid nd'.2
theorem dget_kp {R : R3} {x : Str} {f : Int} {v : V} (h : find3 R x = some (f, v)) : dget (R.map kp) x = some (.p2 (.int f) v) := by
  induction R with
  | nil => simp [find3] at h
  | cons y r ih =>
    obtain ⟨k', f', v'⟩ := y
    unfold find3 at h
    by_cases e : k' = x
    · rw [if_pos e] at h; cases h; simp [dget, kp, e]
    · rw [if_neg e] at h
      have := ih h
      unfold dget at this ⊢
      simp only [List.map_cons, List.find?_cons, kp, e, decide_false]
      exact this
theorem rows_alone_loop {p t : Addr} : ∀ (r pre : R3) (σ : H) (acc : List V) (l1 : Option V) (Q : List V → H → Prop), σ.fld 2 p 16 = some (.ref (.dS 1) t) → (σ.dS 1 t).1 = (pre ++ r).map kp → ((pre ++ r).map (·.1)).Nodup → acc.length + r.length ≤ 900 → Q (acc ++ r.map r3V) σ →
    compL 1 (aVar 1) tTrue (pTup (eCons (pV 1) (eCons (pSub (pSub (pF (pV 0) 16) (pV 1)) (pK (.int 0))) (eCons (pSub (pSub (pF (pV 0) 16) (pV 1)) (pK (.int 1))) eNil)))) (r.map fun x => .str x.1) (.key 1 t pre.length) [some (stv p), l1] acc σ Q := by
  intro r
  induction r with
  | nil => intro pre σ acc l1 Q h1 h2 h3 h4 q; rw [show acc ++ List.map r3V [] = acc from List.append_nil acc] at q; exact q
  | cons x r ih =>
    intro pre σ acc l1 Q h1 h2 h3 h4 q
    obtain ⟨k, f, v⟩ := x
    have hd := dget_kp (find3_mid h3)
    rw [← h2] at hd
    rw [List.length_cons] at h4
    refine cl_var rfl Et.tru (by walk_at "ev") (by exact pc9) ?_ rfl ?_
    · show (((σ.dS 1 t).1.drop (pre.length + 1)).map fun p => V.str p.1) = _
      rw [h2, List.map_append, List.drop_append, List.drop_eq_nil_of_le (by rw [List.length_map]; exact pa7), List.length_map, Nat.add_sub_cancel_left]
      show (List.map kp r).map _ = _
      rw [List.map_map]
      rfl
    · have := ih (pre ++ [(k, f, v)]) σ (acc ++ [r3V (k, f, v)]) (some (.str k)) Q h1 (by rw [List.append_assoc]; exact h2) (by rw [List.append_assoc]; exact h3) (by rw [List.length_append, List.length_singleton]; exact pb2) (by rw [List.append_assoc]; exact q)
      rw [List.length_append] at this
      exact this
theorem rows_shared_loop {p c sl : Addr} : ∀ (r pre : R3) (σ : H) (acc : List V) (l1 l2 : Option V) (Q : List V → H → Prop), σ.fld 2 p 15 = some (.ref (.lst 1) sl) → σ.lst 1 sl = (pre ++ r).map (·.2.2) → σ.lst 0 c = ((pre ++ r).map kf).map rowV → pre.length + r.length ≤ 900 → acc.length + r.length ≤ 900 → Q (acc ++ r.map r3V) σ →
    compL 1 (aTup 2 (asCons (aVar 1) (asCons (aVar 2) asNil))) tTrue (pTup (eCons (pSub (pV 2) (pK (.int 0))) (eCons (pSub (pV 2) (pK (.int 1))) (eCons (pSub (pF (pV 0) 15) (pV 1)) eNil)))) (enumV pre.length ((r.map kf).map rowV)) (.enm 0 c pre.length) [some (stv p), l1, l2] acc σ Q := by
  intro r
  induction r with
  | nil => intro pre σ acc l1 l2 Q h1 h2 h3 h4 h5 q; rw [show acc ++ List.map r3V [] = acc from List.append_nil acc] at q; exact q
  | cons x r ih =>
    intro pre σ acc l1 l2 Q h1 h2 h3 h4 h5 q
    obtain ⟨k, f, v⟩ := x
    rw [List.length_cons] at h4 h5
    have hg : (σ.lst 1 sl)[(pre.length : Int).toNat]? = some v := by
      rw [h2, List.map_append, show ((pre.length : Nat) : Int).toNat = pre.length from rfl, List.getElem?_append_right (by rw [List.length_map]; exact Nat.le_refl _), List.length_map, Nat.sub_self]; rfl
    refine cl_tup2 rfl Et.tru (by walk_at "ev") (by exact pc9) ?_ trivial ?_
    · show enumV (pre.length + 1) ((σ.lst 0 c).drop (pre.length + 1)) = _
      rw [h3, List.map_append, List.map_append, List.drop_append, List.drop_eq_nil_of_le (by rw [List.length_map, List.length_map]; exact pa7), List.length_map, List.length_map, Nat.add_sub_cancel_left]
      rfl
    · have := ih (pre ++ [(k, f, v)]) σ (acc ++ [r3V (k, f, v)]) (some (.int pre.length)) (some (.p2 (.str k) (.int f))) Q h1 (by rw [List.append_assoc]; exact h2) (by rw [List.append_assoc]; exact h3) (by rw [List.length_append, List.length_singleton]; exact pb2) (by rw [List.length_append, List.length_singleton]; exact pb2) (by rw [List.append_assoc]; exact q)
      rw [List.length_append] at this
      exact this
theorem sp_srows {σ : H} {W : Wd} (h : BI σ W) {k : Nat} (hk : k < W.m) {Q : V → H → Prop} (q : ∀ σ' c, BI σ' W → FrR σ σ' → σ.nxt ≤ c → c < σ'.nxt → σ'.lst 2 c = (W.A k).rows.map r3V → Q (.ref (.lst 2) c) σ') : F_Store_rows [stv (W.st k)] σ Q := by
  have T := h.st k hk
  have hlen := T.good.len
  have f17 := T.f17
  have same : ∀ σ', σ'.fld = σ.fld → σ'.dS = σ.dS → σ'.dI = σ.dI → σ'.dT = σ.dT → σ.nxt ≤ σ'.nxt → (∀ k, k ≠ 0 → k ≠ 2 → σ'.lst k = σ.lst k) → BI σ' W ∧ FrR σ σ' := fun σ' e1 e2 e3 e4 e5 e6 => by
    have F : FrR σ σ' := ⟨⟨e5, fun c _ => by rw [e1], fun k hk => e6 k (by exact pc5) (by exact pc5), fun k _ => by rw [e2]⟩, by rw [e1], e6 1 (by omega) (by omega), by rw [e2]⟩
    exact ⟨h.read F (h.si.eqv (by rw [e1]) (by rw [e1]) (fun p => by rw [e1]) (by rw [e3]) (by rw [e4]) (by rw [e2]) e5), F⟩
  refine q_def rfl ?_
  cases ha : W.al k with
  | true =>
    rw [ha] at f17
    obtain ⟨t, f16⟩ := T.f16
    have ht := (T.alone ha).2.2 t f16
    refine q_ift (by walk_at "ev") (q_cons (q_retFC (e_compK (by walk_at "ev") (fun i hi => by cases List.mem_singleton.mp hi; exact ⟨_, rfl⟩) fun a hn => ?_)))
    rw [ht, List.drop_zero, List.map_map]
    refine rows_alone_loop (p := W.st k) (t := t) (W.A k).rows [] (σ.res a) [] none _ f16 ht T.good.nd (by rw [List.length_nil]; exact pc8) ?_
    obtain ⟨B, F⟩ := same ((σ.res a).setL 2 a ((W.A k).rows.map r3V)) rfl rfl rfl rfl (Nat.le_succ_of_le hn) (fun k' _ h2 => (setL_kl h2 : ((σ.res a).setL 2 a ((W.A k).rows.map r3V)).lst k' = _))
    exact ⟨Nat.lt_succ_self _, q _ a B F hn (Nat.lt_succ_self _) setL_at⟩
  | false =>
    rw [ha] at f17
    obtain ⟨f14, ⟨i, hi, ir, io, -⟩, ⟨s, f15, hs⟩, -⟩ := T.shared ha
    repeat (walk_at "st")
    refine q_retFC (e_compEC (e_meth (by walk_at "ev") rfl El.nil (sp_rows (h.si.ro' fun _ _ _ _ => rfl) hi fun c hc => ⟨fun i hi => by cases List.mem_singleton.mp hi; exact ⟨_, rfl⟩, fun a hn => ?_⟩)))
    rw [newL_at, List.drop_zero, ir]
    have hna : σ.nxt ≤ a := Nat.le_trans hc (Nat.le_of_succ_le hn)
    refine rows_shared_loop (p := W.st k) (c := c) (sl := s) (W.A k).rows [] ((σ.newL 0 c (((W.A k).rows.map kf).map rowV)).res a) [] none none _ f15 hs newL_at (by rw [List.length_nil]; exact pc8) (by rw [List.length_nil]; exact pc8) ?_
    obtain ⟨B, F⟩ := same (((σ.newL 0 c (((W.A k).rows.map kf).map rowV)).res a).setL 2 a ((W.A k).rows.map r3V)) rfl rfl rfl rfl (Nat.le_succ_of_le hna) (fun k' h0 h2 => (setL_kl h2 : (((σ.newL 0 c (((W.A k).rows.map kf).map rowV)).res a).setL 2 a ((W.A k).rows.map r3V)).lst k' = _).trans (newL_kl h0))
    exact ⟨Nat.lt_succ_self _, q _ a B F hna (Nat.lt_succ_self _) setL_at⟩
end
section
set_option linter.unusedSimpArgs false
structure Step (W W' : Wd) (k : Nat) : Prop where
  tr : W'.tr = W.tr
  ro : W'.ro = W.ro
  m : W'.m = W.m
  st : W'.st = W.st
  ext : Ext W.S W'.S
  A : ∀ l, l ≠ k → W'.A l = W.A l
  al : ∀ l, l ≠ k → W'.al l = W.al l
  sp : ∀ l, l ≠ k → W'.sp l = W.sp l
  alk : W.al k = true → W'.al k = true
theorem Step.refl (W : Wd) (k : Nat) : Step W W k := ⟨rfl, rfl, rfl, rfl, .refl _, fun _ _ => rfl, fun _ _ => rfl, fun _ _ => rfl, id⟩
theorem Step.trans {a b c : Wd} {k : Nat} (x : Step a b k) (y : Step b c k) : Step a c k :=
  ⟨y.tr.trans x.tr, y.ro.trans x.ro, y.m.trans x.m, y.st.trans x.st, x.ext.trans y.ext, fun l h => (y.A l h).trans (x.A l h), fun l h => (y.al l h).trans (x.al l h), fun l h => (y.sp l h).trans (x.sp l h), fun h => y.alk (x.alk h)⟩
noncomputable def Wd.upd (W : Wd) (k : Nat) (o : OA) (al : Bool) (sp : Addr) (S : SM) : Wd :=
  { W with S := S, A := fun l => if l = k then o else W.A l, al := fun l => if l = k then al else W.al l, sp := fun l => if l = k then sp else W.sp l }
theorem upd_step {W : Wd} {k : Nat} {o : OA} {al : Bool} {sp : Addr} {S : SM} (e : Ext W.S S) (h : W.al k = true → al = true) : Step W (W.upd k o al sp S) k :=
  ⟨rfl, rfl, rfl, rfl, e, fun l h => if_neg h, fun l h => if_neg h, fun l h => if_neg h, fun q => (if_pos rfl).trans (h q)⟩
theorem upd_A {W : Wd} {k : Nat} {o : OA} {al : Bool} {sp : Addr} {S : SM} : (W.upd k o al sp S).A k = o := if_pos rfl
theorem upd_al {W : Wd} {k : Nat} {o : OA} {al : Bool} {sp : Addr} {S : SM} : (W.upd k o al sp S).al k = al := if_pos rfl
theorem upd_sp {W : Wd} {k : Nat} {o : OA} {al : Bool} {sp : Addr} {S : SM} : (W.upd k o al sp S).sp k = sp := if_pos rfl
theorem upd_pro {W : Wd} {k l : Nat} {o : OA} {al : Bool} {sp : Addr} {S : SM} (h : l ≠ k ∨ o.abv = (W.A k).abv) : (W.upd k o al sp S).pro l = W.pro l := by
  unfold Wd.pro
  by_cases e : l = k
  · subst e
    have h := h.resolve_left (fun q => q rfl)
    rw [upd_A, h]; rfl
  · have : (W.upd k o al sp S).A l = W.A l := if_neg e
    rw [this]; rfl
theorem BI.upd {σ σ' : H} {W : Wd} (h : BI σ W) {k : Nat} (hk : k < W.m) {o : OA} {al : Bool} {sp : Addr} {S : SM} (e : Ext W.S S) (si : SI σ' W.tr W.ro W.m S) (new : StOk σ' W.tr S (W.st k) o.rows ((W.upd k o al sp S).pro k) o.op al sp) (hn : σ.nxt ≤ σ'.nxt)
    (hab : o.abv = true → 0 < k) (f : ∀ q, q ≠ W.st k → σ'.fld 2 q = σ.fld 2 q) (f16 : σ'.fld 2 (W.st k) 16 = σ.fld 2 (W.st k) 16)
    (f15 : ∀ t, σ'.fld 2 (W.st k) 15 = some (.ref (.lst 1) t) → σ.fld 2 (W.st k) 15 = some (.ref (.lst 1) t) ∨ (σ.nxt ≤ t ∧ t < σ'.nxt))
    (hS : ∀ t, σ.fld 2 (W.st k) 16 ≠ some (.ref (.dS 1) t) → t < σ.nxt → σ'.dS 1 t = σ.dS 1 t)
    (hl : ∀ t, σ.fld 2 (W.st k) 15 ≠ some (.ref (.lst 1) t) → t < σ.nxt → σ'.lst 1 t = σ.lst 1 t) : BI σ' (W.upd k o al sp S) := by
  have g16 : ∀ q, σ'.fld 2 q 16 = σ.fld 2 q 16 := fun q => by
    by_cases e : q = W.st k
    · rw [e, f16]
    · rw [f q e]
  refine ⟨si, fun l hl' => ?_, h.inj, fun p q t hp hq => ?_, fun p q t hp hq => ?_, fun p t hp => ?_, fun p t hp => ?_, fun l hl' ha => ?_, h.m4, fun p g v hp => ?_⟩
  · by_cases q : l = k
    · subst q
      rw [upd_A, upd_al, upd_sp]; exact new
    · have a1 : (W.upd k o al sp S).A l = W.A l := if_neg q
      have a2 : (W.upd k o al sp S).al l = W.al l := if_neg q
      have a3 : (W.upd k o al sp S).sp l = W.sp l := if_neg q
      have ne : W.st l ≠ W.st k := fun z => q (h.inj l k hl' hk z)
      rw [upd_pro (.inl q), a1, a2, a3]
      exact (h.st l hl').mono e hn (f _ ne) (fun t ht => hS t (fun z => ne (h.i16 _ _ t ht z)) (h.l16 _ t ht)) fun t ht => hl t (fun z => ne (h.i15 _ _ t ht z)) (h.l15 _ t ht)
  · rw [g16] at hp hq; exact h.i16 p q t hp hq
  · by_cases ep : p = W.st k <;> by_cases eq : q = W.st k
    · rw [ep, eq]
    · rw [f q eq] at hq; subst ep
      rcases f15 t hp with z | ⟨z, -⟩
      · exact h.i15 _ _ t z hq
      · exact absurd (h.l15 _ t hq) (Nat.not_lt.mpr z)
    · rw [f p ep] at hp; subst eq
      rcases f15 t hq with z | ⟨z, -⟩
      · exact h.i15 _ _ t hp z
      · exact absurd (h.l15 _ t hp) (Nat.not_lt.mpr z)
    · rw [f p ep] at hp; rw [f q eq] at hq; exact h.i15 p q t hp hq
  · rw [g16] at hp; exact Nat.lt_of_lt_of_le (h.l16 p t hp) hn
  · by_cases ep : p = W.st k
    · subst ep
      rcases f15 t hp with z | ⟨-, z⟩
      · exact Nat.lt_of_lt_of_le (h.l15 _ t z) hn
      · exact z
    · rw [f p ep] at hp; exact Nat.lt_of_lt_of_le (h.l15 p t hp) hn
  · by_cases q : l = k
    · subst q; rw [upd_A] at ha; exact hab ha
    · have a1 : (W.upd k o al sp S).A l = W.A l := if_neg q
      rw [a1] at ha; exact h.abv l hl' ha
  · by_cases ep : p = W.st k
    · rw [ep]; exact new.lt
    · rw [f p ep] at hp; exact Nat.lt_of_lt_of_le (h.l2 p g v hp) hn
noncomputable def putR : R3 → Str → Int → V → R3
  | [], x, f, v => [(x, f, v)]
  | (k, g, u) :: r, x, f, v => if k = x then (x, f, v) :: r else (k, g, u) :: putR r x f v
noncomputable def delR (r : R3) (x : Str) : R3 := r.filter fun y => decide (y.1 ≠ x)
def vOk (f : Int) (v : V) : Prop := v.pl 3 = true ∧ (8 ≤ f → ∃ g s : Str, v = .p2 (.str g) (.str s) ∧ PyData.strOk s = true)
theorem putR_new : ∀ {r : R3} {x : Str} {f : Int} {v : V}, find3 r x = none → putR r x f v = r ++ [(x, f, v)]
  | [], _, _, _, _ => rfl
  | (k, g, u) :: r, x, f, v, h => by
    unfold find3 at h
    by_cases e : k = x
    · rw [if_pos e] at h; cases h
    · rw [if_neg e] at h
      show (if k = x then _ else _) = _
      rw [if_neg e, putR_new h]; rfl
theorem putR_set : ∀ {r : R3} {n i : Nat} {x : Str} {f0 f : Int} {v : V}, idxR n (r.map kf) x = some (n + i, f0) → putR r x f v = r.set i (x, f, v)
  | [], n, i, x, f0, f, v, h => by simp [idxR] at h
  | (k, g, u) :: r, n, i, x, f0, f, v, h => by
    simp only [List.map_cons, kf, idxR] at h
    by_cases e : k = x
    · rw [if_pos e] at h
      have : i = 0 := by simp only [Option.some.injEq, Prod.mk.injEq] at h; omega
      subst this
      simp [putR, e]
    · rw [if_neg e] at h
      obtain ⟨j, v', h1, -, -⟩ := idx3_some h
      cases i with
      | zero => omega
      | succ i =>
        have := putR_set (r := r) (n := n + 1) (i := i) (f := f) (v := v) (by rw [show n + 1 + i = n + (i + 1) by exact pa5]; exact h)
        simp [putR, e, this]
theorem putR_dput : ∀ {r : R3} {x : Str} {f : Int} {v : V}, (r.map (·.1)).Nodup → dput (r.map kp) x (.p2 (.int f) v) = (putR r x f v).map kp
  | [], _, _, _, _ => by simp [dput, putR, kp]
  | (k, g, u) :: r, x, f, v, nd => by
    have nd' := List.nodup_cons.mp nd
    have ih := putR_dput (r := r) (x := x) (f := f) (v := v) nd'.2
    by_cases e : k = x
    · subst e
      have hn : ∀ y ∈ r, ¬ y.1 = k := fun y hy z => nd'.1 (List.mem_map.mpr ⟨y, hy, z⟩)
      have : (r.map kp).map (fun y => if y.1 = k then (y.1, V.p2 (.int f) v) else y) = r.map kp := by
        rw [List.map_map]
        refine List.map_congr_left fun y hy => ?_
        simp [kp, hn y hy]
      simp only [putR, if_true, List.map_cons, dput, kp, List.any_cons, decide_true, Bool.true_or]
      rw [this]
    · unfold dput at ih ⊢
      simp only [putR, List.map_cons, kp, List.any_cons, e, decide_false, Bool.false_or, if_false]
      split at ih <;> rename_i q
      · rw [if_pos q, ih]
      · rw [if_neg q, List.cons_append, ih]
theorem delR_ddel {r : R3} {x : Str} : ddel (r.map kp) x = (delR r x).map kp := by
  unfold ddel delR
  rw [List.filter_map]
  rfl
theorem find3_put : ∀ {r : R3} {x y : Str} {f : Int} {v : V}, find3 (putR r x f v) y = if x = y then some (f, v) else find3 r y
  | [], x, y, f, v => rfl
  | (k, g, u) :: r, x, y, f, v => by
    unfold putR
    by_cases e : k = x
    · rw [if_pos e]; subst e
      simp only [find3]
      by_cases q : k = y <;> simp [q]
    · rw [if_neg e]
      simp only [find3]
      rw [find3_put (r := r)]
      by_cases q : k = y
      · have : ¬ x = y := fun z => e (q.trans z.symm)
        simp [q, this]
      · simp [q]
theorem find3_mem : ∀ {r : R3} {x : Str} {f : Int} {v : V}, find3 r x = some (f, v) → (x, f, v) ∈ r
  | [], _, _, _, h => by simp [find3] at h
  | (k, g, u) :: r, x, f, v, h => by
    unfold find3 at h
    by_cases e : k = x
    · rw [if_pos e] at h; cases h; subst e; exact .head _
    · rw [if_neg e] at h; exact .tail _ (find3_mem h)
theorem putR_mem : ∀ {r : R3} {x : Str} {f : Int} {v : V} {y}, y ∈ putR r x f v → y ∈ r ∨ y = (x, f, v)
  | [], _, _, _, _, h => .inr (by simpa [putR] using h)
  | (k, g, u) :: r, x, f, v, y, h => by
    unfold putR at h
    by_cases e : k = x
    · rw [if_pos e] at h
      rcases List.mem_cons.mp h with h | h
      · exact .inr h
      · exact .inl (.tail _ h)
    · rw [if_neg e] at h
      rcases List.mem_cons.mp h with h | h
      · exact .inl (h ▸ .head _)
      · exact (putR_mem h).imp (.tail _) id
theorem putR_keys : ∀ {r : R3} {x : Str} {f : Int} {v : V}, (putR r x f v).map (·.1) = if x ∈ r.map (·.1) then r.map (·.1) else r.map (·.1) ++ [x]
  | [], x, f, v => rfl
  | (k, g, u) :: r, x, f, v => by
    unfold putR
    by_cases e : k = x
    · subst e; simp
    · rw [if_neg e, List.map_cons, putR_keys]
      have : ¬ x = k := fun z => e z.symm
      by_cases q : x ∈ r.map (·.1) <;> simp [q, this]
theorem GR3.put {r : R3} (h : GR3 r) {x : Str} {f : Int} {v : V} (hx : x ∈ abc) (h0 : 0 ≤ f) (h1 : f < 16) (hv : vOk f v) : GR3 (putR r x f v) := by
  refine ⟨⟨?_, fun y hy => ?_⟩, fun y hy => ?_⟩
  · have e : ((putR r x f v).map (fun x => (x.1, x.2.1))).map (·.1) = (putR r x f v).map (·.1) := by rw [List.map_map]; rfl
    rw [e, putR_keys]
    split
    · exact h.nd
    · rename_i q
      rw [List.nodup_append]
      refine ⟨h.nd, by simp, fun a ha b hb => ?_⟩
      rw [List.mem_singleton] at hb; subst hb
      exact fun z => q (z ▸ ha)
  · obtain ⟨z, hz, rfl⟩ := List.mem_map.mp hy
    rcases putR_mem hz with hz | rfl
    · exact h.1.2 _ (List.mem_map.mpr ⟨z, hz, rfl⟩)
    · exact ⟨hx, h0, h1⟩
  · rcases putR_mem hy with hy | rfl
    · exact h.2 y hy
    · exact hv
theorem GR3.del {r : R3} (h : GR3 r) {x : Str} : GR3 (delR r x) := by
  refine ⟨⟨?_, fun y hy => ?_⟩, fun y hy => h.2 y (List.mem_filter.mp hy).1⟩
  · have e : ((delR r x).map (fun x => (x.1, x.2.1))).map (·.1) = (delR r x).map (·.1) := by rw [List.map_map]; rfl
    rw [e]
    exact h.nd.sublist (List.Sublist.map _ List.filter_sublist)
  · obtain ⟨z, hz, rfl⟩ := List.mem_map.mp hy
    exact h.1.2 _ (List.mem_map.mpr ⟨z, (List.mem_filter.mp hz).1, rfl⟩)
end
section
set_option linter.unusedSimpArgs false
set_option maxHeartbeats 4000000
set_option maxRecDepth 10000
theorem setS_id {σ : H} {k : Nat} {a : Addr} : σ.setS k a (σ.dS k a).1 (σ.dS k a).2 = σ := by
  refine H.ext' (fun _ _ _ => rfl) (fun _ _ => rfl) (fun k' a' => ?_) (fun _ _ => rfl) (fun _ _ => rfl) rfl
  simp only [rd_setS_dS]
  split
  · rename_i h; rw [h.1, h.2]
  · rfl
noncomputable abbrev gaB : S1 := sCons (sPutI (pTup (eCons (pV 2) (eCons (pV 3) eNil))) (pF (pV 0) 16) (pV 1)) sNil
theorem ga_loop {p t c : Addr} : ∀ (r pre : R3) (σ : H) (Q : Fl → Ls → H → Prop) (l1 l2 l3 : Option V), σ.fld 2 p 16 = some (.ref (.dS 1) t) → (σ.dS 1 t).1 = pre.map kp → ((pre ++ r).map (·.1)).Nodup → σ.lst 2 c = (pre ++ r).map r3V → pre.length + r.length ≤ 900 →
    (∀ e l1 l2 l3, Q .next [some (stv p), l1, l2, l3] (σ.setS 1 t ((pre ++ r).map kp) e)) →
    forL (aTup 3 (asCons (aVar 1) (asCons (aVar 2) (asCons (aVar 3) asNil)))) gaB (r.map r3V) (.lst 2 c pre.length) [some (stv p), l1, l2, l3] σ Q := by
  intro r
  induction r with
  | nil =>
    intro pre σ Q l1 l2 l3 h1 h2 h3 h4 h5 q
    have := q (σ.dS 1 t).2 l1 l2 l3
    rw [List.append_nil, ← h2, setS_id] at this
    exact this
  | cons x r ih =>
    intro pre σ Q l1 l2 l3 h1 h2 h3 h4 h5 q
    obtain ⟨k, f, v⟩ := x
    rw [List.length_cons] at h5
    have hk : k ∉ pre.map (·.1) := fun z => by
      rw [List.map_append, List.nodup_append] at h3
      exact h3.2.2 _ z k (.head _) rfl
    have e1 : dput (pre.map kp) k (.p2 (.int f) v) = (pre ++ [(k, f, v)]).map kp := by
      rw [dput_new (by rw [List.map_map]; exact hk), List.map_append]; rfl
    refine f_tup3 (q_putS (by walk_at "ev") (by walk_at "ev") (by walk_at "ev") (by rw [h2, List.length_map]; exact pc9) fun e => f_end ?_ trivial ?_)
    · show (σ.lst 2 c).drop (pre.length + 1) = _
      rw [h4, drop_mid]
    · rw [h2, e1]
      have := ih (pre ++ [(k, f, v)]) (σ.setS 1 t ((pre ++ [(k, f, v)]).map kp) e) Q (some (.str k)) (some (.int f)) (some v) h1 (congrArg Prod.fst setS_at) (by rw [List.append_assoc]; exact h3) (by rw [List.append_assoc]; exact h4) (by rw [List.length_append, List.length_singleton]; exact pb2) fun e' m1 m2 m3 => by
        rw [setS_setS, List.append_assoc]
        exact q e' m1 m2 m3
      rw [List.length_append] at this
      exact this
theorem sp_go_alone {σ : H} {W : Wd} (h : BI σ W) {k : Nat} (hk : k < W.m) {Q : V → H → Prop} (q : ∀ σ' W', BI σ' W' → Step W W' k → W'.al k = true → W'.A k = W.A k → FrB σ σ' → Q .none σ') : F_Store_go_alone [stv (W.st k)] σ Q := by
  have T := h.st k hk
  have f17 := T.f17
  refine q_def rfl ?_
  cases ha : W.al k with
  | true =>
    rw [ha] at f17
    repeat (walk_at "st")
    exact q σ W h (.refl _ _) ha rfl (.refl _)
  | false =>
    rw [ha] at f17
    obtain ⟨t, f16⟩ := T.f16
    repeat (walk_at "st")
    refine q_forLC (e_meth (by walk_at "ev") rfl El.nil (sp_srows h hk fun σ1 c h1 F1 hc hc1 hl => k_forL ?_))
    have T1 := h1.st k hk
    obtain ⟨f14, ⟨i, hi, ir, io, ip⟩, ⟨s, f15, hs⟩, htb⟩ := T1.shared ha
    have f16' : σ1.fld 2 (W.st k) 16 = some (.ref (.dS 1) t) := by rw [F1.f2]; exact f16
    have I := h1.si.sh _ _ hi
    have f2 := I.f2
    have f6 := I.f6
    rw [ip] at f2
    rw [io] at f6
    have hlen := T.good.len
    rw [hl, List.drop_zero]
    refine ga_loop (p := W.st k) (t := t) (c := c) (W.A k).rows [] σ1 _ none none none f16' (htb t f16') T.good.nd hl (by rw [List.length_nil]; exact pc8) fun e l1 l2 l3 => ?_
    rw [List.nil_append]
    repeat (walk_at "st")
    refine q_putFC (e_list El.nil (Nat.zero_le _) fun s' hs' => ?_)
    repeat (walk_at "st")
    have hs' : σ1.nxt ≤ s' := hs'
    generalize hτ : (((((σ1.setS 1 t ((W.A k).rows.map kp) e).setF 2 (W.st k) 18 (proV (W.pro k))).setF 2 (W.st k) 19 (.bool (W.A k).op)).newL 1 s' []).setF 2 (W.st k) 15 (.ref (.lst 1) s')).setF 2 (W.st k) 17 (.bool true) = τ
    have kc : ∀ c, c ≠ 2 → τ.fld c = σ1.fld c := by
      rw [← hτ]
      exact fun c n => (setF_cl n).trans ((setF_cl n).trans ((setF_cl n : (((σ1.setS 1 t ((W.A k).rows.map kp) e).setF 2 (W.st k) 18 (proV (W.pro k))).setF 2 (W.st k) 19 (.bool (W.A k).op)).fld c = _).trans (setF_cl n)))
    have kf : ∀ p f, p ≠ W.st k → τ.fld 2 p f = σ1.fld 2 p f := by
      rw [← hτ]
      exact fun p f n => (setF_a n).trans ((setF_a n).trans ((setF_a n : (((σ1.setS 1 t ((W.A k).rows.map kp) e).setF 2 (W.st k) 18 (proV (W.pro k))).setF 2 (W.st k) 19 (.bool (W.A k).op)).fld 2 p f = _).trans (setF_a n)))
    have ks : ∀ f, f ≠ 15 → f ≠ 17 → τ.fld 2 (W.st k) f = (((σ1.setS 1 t ((W.A k).rows.map kp) e).setF 2 (W.st k) 18 (proV (W.pro k))).setF 2 (W.st k) 19 (.bool (W.A k).op)).fld 2 (W.st k) f := by
      rw [← hτ]
      exact fun f n1 n2 => (setF_f n2).trans (setF_f n1)
    have k18 : τ.fld 2 (W.st k) 18 = some (proV (W.pro k)) := (ks 18 (by decide) (by decide)).trans ((setF_f (by decide)).trans setF_at)
    have k19 : τ.fld 2 (W.st k) 19 = some (.bool (W.A k).op) := (ks 19 (by decide) (by decide)).trans setF_at
    have ks : ∀ f, f < 15 ∨ f = 16 → τ.fld 2 (W.st k) f = σ1.fld 2 (W.st k) f := fun f n => (ks f (by omega) (by omega)).trans ((setF_f (by omega)).trans (setF_f (by omega)))
    have k15 : τ.fld 2 (W.st k) 15 = some (.ref (.lst 1) s') := by
      rw [← hτ]
      exact (setF_f (by decide)).trans setF_at
    have k17 : τ.fld 2 (W.st k) 17 = some (.bool true) := by
      rw [← hτ]
      exact setF_at
    obtain ⟨kS, kL, kI, kT, kN⟩ : τ.dS = (σ1.setS 1 t ((W.A k).rows.map kp) e).dS ∧ τ.lst = (σ1.newL 1 s' []).lst ∧ τ.dI = σ1.dI ∧ τ.dT = σ1.dT ∧ τ.nxt = s' + 1 := by
      rw [← hτ]
      exact ⟨rfl, rfl, rfl, rfl, rfl⟩
    have hnx : σ1.nxt ≤ τ.nxt := by rw [kN]; exact Nat.le_succ_of_le hs'
    have k0 : ∀ p, τ.fld 2 p 0 = σ1.fld 2 p 0 := fun p => by
      by_cases n : p = W.st k
      · rw [n]; exact ks 0 (.inl (by decide))
      · exact kf p 0 n
    have k16 := ks 16 (.inr rfl)
    refine q τ (W.upd k (W.A k) true (W.sp k) W.S) (h1.upd hk (.refl _) (h1.si.eqv (kc 0 (by decide)) (kc 1 (by decide)) k0 (by rw [kI]) (by rw [kT]) (by rw [kS]; exact setS_kl (by decide)) hnx) ?_ hnx (h.abv k hk) (fun q hq => funext fun f => kf q f hq) k16 ?_ ?_ ?_) (upd_step (.refl _) fun _ => rfl) upd_al upd_A ?_
    · rw [upd_pro (.inr rfl)]
      refine ⟨?_, (ks 13 (.inl (by decide))).trans T1.f13, k17, ⟨t, k16.trans f16'⟩, Nat.lt_of_lt_of_le T1.lt hnx, T.good, fun _ => ⟨k18, k19, fun t' ht' => ?_⟩, fun e => nomatch e⟩
      · rw [k0]; exact T1.num
      · rw [k16, f16'] at ht'; cases ht'
        rw [kS, setS_at]
    · intro t' ht'
      rw [k15] at ht'
      cases ht'
      exact .inr ⟨hs', by rw [kN]; exact Nat.lt_succ_self _⟩
    · intro t' ht' _
      rw [kS]
      exact setS_a fun z => ht' (z ▸ f16')
    · intro t' _ ht'
      rw [kL]
      exact newL_a (Nat.ne_of_lt (Nat.lt_of_lt_of_le ht' hs'))
    · exact F1.toFrB.trans ⟨hnx, fun c hc => kc c (by exact pc5), fun k' hk' => by rw [kL]; exact newL_kl (by exact pc5), fun k' hk' => by rw [kS]; exact setS_kl (by exact pc5)⟩
end
section
set_option linter.unusedSimpArgs false
set_option maxHeartbeats 4000000
set_option maxRecDepth 10000
noncomputable def OA.wr (o : OA) (R : R3) : OA := ⟨R, o.abv, o.op⟩
theorem FrA.newL {σ : H} {c : Addr} {l : List V} (h : σ.nxt ≤ c) : FrA σ (σ.newL 0 c l) :=
  ⟨Nat.le_succ_of_le h, fun _ _ => rfl, fun k a hk => newL_ka fun z => Nat.lt_irrefl _ (Nat.lt_of_lt_of_le (z.2 ▸ hk z.1) h), fun _ _ => rfl⟩
theorem SI.newL {σ : H} {tr ro : Addr} {N : Nat} {S : SM} (h : SI σ tr ro N S) {k : Nat} {c : Addr} {l : List V} (hc : σ.nxt ≤ c) : SI (σ.newL k c l) tr ro N S :=
  h.eqv rfl rfl (fun _ => rfl) rfl rfl rfl (Nat.le_succ_of_le hc)
theorem SI.setF2 {σ : H} {tr ro : Addr} {N : Nat} {S : SM} (h : SI σ tr ro N S) {p : Addr} {f : Nat} {v : V} (hf : f ≠ 0) : SI (σ.setF 2 p f v) tr ro N S :=
  h.eqv (setF_cl (by decide)) (setF_cl (by decide)) (fun q => setF_f (Ne.symm hf)) rfl rfl rfl (Nat.le_refl _)
theorem sp_reflag {σ : H} {tr ro : Addr} {N : Nat} {S : SM} (h : SI σ tr ro N S) {p a : Addr} {i : Sh} (f13 : σ.fld 2 p 13 = some (.ref (.inst 1) tr)) (f14 : σ.fld 2 p 14 = some (shv a)) (ha : S a = some i) {s : Nat} {x : Str} {f0 f : Int} (hs : i.rows[s]? = some (x, f0)) (hf0 : 0 ≤ f) (hf1 : f < 16) {n : Int} (hp : pkey σ i.pro n) {Q : V → H → Prop}
    (q : ∀ σ1 S' b j, SI σ1 tr ro N S' → Ext S S' → FrA σ σ1 → S' b = some j → j.rows = i.rows.set s (x, f) → j.pro = i.pro → j.op = i.op → Q .none (σ1.setF 2 p 14 (shv b))) : F_Store_reflag [stv p, .int s, .int f] σ Q := by
  have I := h.sh a i ha
  have hlen := I.good.len
  have f2 := I.f2
  have f6 := I.f6
  have hlt : s < i.rows.length := (List.getElem?_eq_some_iff.mp hs).1
  refine q_def rfl (q_setC (e_meth (by walk_at "ev") rfl (by walk_at "ev") (sp_rows (h.ro' fun _ _ _ _ => rfl) ha fun c hc => ?_)))
  have hg : ((σ.newL 0 c (i.rows.map rowV)).lst 0 c)[((s : Nat) : Int).toNat]? = some (rowV (x, f0)) := by rw [newL_at, show ((s : Nat) : Int).toNat = s from rfl, List.getElem?_map, hs]; rfl
  have hm : (i.rows.map rowV).set s (.p2 (.str x) (.int f)) = (i.rows.set s (x, f)).map rowV := by rw [List.map_set]; rfl
  have hgr : GR (i.rows.set s (x, f)) := by
    refine ⟨?_, fun y hy => ?_⟩
    · have e : (i.rows.set s (x, f)).map (·.1) = i.rows.map (·.1) := by
        rw [List.map_set]
        refine List.ext_getElem? fun j => ?_
        rw [List.getElem?_set]
        split
        · rename_i e; subst e
          rw [List.getElem?_map, hs, if_pos (by rw [List.length_map]; exact hlt)]; rfl
        · rfl
      rw [e]; exact I.good.1
    · rcases List.mem_or_eq_of_mem_set hy with hy | rfl
      · exact I.good.2 y hy
      · exact ⟨(I.good.2 _ (List.mem_of_getElem? hs)).1, hf0, hf1⟩
  refine q_putL (Ev.tup2 (El.cons (Ev.psub (v := rowV (x, f0)) (Ev.subL (by walk_at "ev") (by walk_at "ev") ⟨by exact pa1, by exact pd3⟩ hg) Ev.con rfl) (by walk_at "ev"))) (by walk_at "ev") (by walk_at "ev") ⟨by exact pa1, by exact pd3, by rw [newL_at, List.length_map]; exact hlt⟩ ?_
  rw [newL_at, newL_setL, show ((s : Nat) : Int).toNat = s from rfl, hm]
  refine q_putFC (e_meth (by walk_at "ev") rfl (by walk_at "ev") (sp_built (h.newL hc) (Nat.lt_succ_self _) newL_at hgr (hp.fr (FrA.newL hc)) fun σ1 S' b j H e F hb r1 r2 r3 => ?_))
  repeat (walk_at "st")
  exact q σ1 S' b j H e ((FrA.newL hc).trans F) hb r1 r2 r3
theorem BI.putTab {σ : H} {W : Wd} (h : BI σ W) {k : Nat} (hk : k < W.m) (ha : W.al k = true) {t : Addr} (f16 : σ.fld 2 (W.st k) 16 = some (.ref (.dS 1) t)) {R : R3} (hR : GR3 R) (e : Nat) :
    BI (σ.setS 1 t (R.map kp) e) (W.upd k ((W.A k).wr R) true (W.sp k) W.S) := by
  have T := h.st k hk
  refine h.upd hk (.refl _) (h.si.eqv rfl rfl (fun _ => rfl) rfl rfl (setS_kl (by decide)) (Nat.le_refl _)) ?_ (Nat.le_refl _) (h.abv k hk) (fun _ _ => rfl) rfl (fun t h => .inl h) (fun t' ht' _ => ?_) (fun _ _ _ => rfl)
  · rw [upd_pro (.inr (show ((W.A k).wr R).abv = (W.A k).abv from rfl))]
    refine ⟨T.num, T.f13, ha ▸ T.f17, T.f16, T.lt, hR, fun _ => ⟨(T.alone ha).1, (T.alone ha).2.1, fun t' ht' => ?_⟩, fun e => nomatch e⟩
    have : σ.fld 2 (W.st k) 16 = some (.ref (.dS 1) t') := ht'
    rw [f16] at this; cases this
    rw [setS_at]; rfl
  · exact setS_a fun z => ht' (z ▸ f16)
theorem FrB.setS1 {σ : H} {t : Addr} {l : List (Str × V)} {e : Nat} : FrB σ (σ.setS 1 t l e) :=
  ⟨Nat.le_refl _, fun _ _ => rfl, fun _ _ => rfl, fun k hk => by
    have : k ≠ 1 := by exact pc5
    exact setS_kl this⟩
theorem BI.setSh {σ σ1 : H} {W : Wd} (h : BI σ W) {k : Nat} (hk : k < W.m) (ha : W.al k = false) {o : OA} {sl : Addr} (f15 : σ.fld 2 (W.st k) 15 = some (.ref (.lst 1) sl)) {S' : SM} {b : Addr} {j : Sh} (si : SI σ1 W.tr W.ro W.m S') (e : Ext W.S S') (hb : S' b = some j) (hr : j.rows = o.rows.map kf) (hop : j.op = o.op) (hp : j.pro = (W.upd k o false b S').pro k) (hg : GR3 o.rows) (hab : o.abv = true → 0 < k)
    (nx : σ.nxt ≤ σ1.nxt) (e2 : ∀ q f, f ≠ 14 → σ1.fld 2 q f = σ.fld 2 q f) (e14 : ∀ q, q ≠ W.st k → σ1.fld 2 q 14 = σ.fld 2 q 14) (k14 : σ1.fld 2 (W.st k) 14 = some (shv b)) (eS : σ1.dS 1 = σ.dS 1) (hl : ∀ s, s ≠ sl → σ1.lst 1 s = σ.lst 1 s) (kl : σ1.lst 1 sl = o.rows.map (·.2.2)) : BI σ1 (W.upd k o false b S') := by
  have T := h.st k hk
  obtain ⟨f14, -, -, htb⟩ := T.shared ha
  refine h.upd hk e si ?_ nx hab (fun q hq => ?_) (e2 _ 16 (by decide)) (fun t h => .inl (by rw [← e2 _ 15 (by decide)]; exact h)) (fun t' _ _ => by rw [eS]) (fun s hs _ => hl s fun z => hs (z ▸ f15))
  · refine ⟨?_, ?_, ?_, ?_, Nat.lt_of_lt_of_le T.lt nx, hg, fun e => (nomatch e), fun _ => ⟨k14, ⟨j, hb, hr, hop, hp⟩, ⟨sl, ?_, kl⟩, fun t ht => ?_⟩⟩
    · rw [e2 _ 0 (by decide)]; exact T.num
    · rw [e2 _ 13 (by decide)]; exact T.f13
    · rw [e2 _ 17 (by decide)]; exact ha ▸ T.f17
    · rw [e2 _ 16 (by decide)]; exact T.f16
    · rw [e2 _ 15 (by decide)]; exact f15
    · rw [e2 _ 16 (by decide)] at ht; rw [eS]; exact htb t ht
  · funext f
    by_cases z : f = 14
    · subst z; exact e14 q hq
    · exact e2 q f z
theorem pro_key {σ : H} {W : Wd} (h : BI σ W) {k : Nat} (hk : k < W.m) : ∃ n, pkey σ (W.pro k) n := by
  unfold Wd.pro
  cases ha : (W.A k).abv with
  | false => exact ⟨0, rfl⟩
  | true => exact (h.st (k - 1) (by exact pb1)).num
end
section
set_option linter.unusedSimpArgs false
set_option maxHeartbeats 4000000
set_option maxRecDepth 10000
theorem wr_kf_put {R : R3} {x : Str} {f : Int} {v : V} (h : find3 R x = none) : (putR R x f v).map kf = R.map kf ++ [(x, f)] := by
  rw [putR_new h, List.map_append]; rfl
theorem wr_v_put {R : R3} {x : Str} {f : Int} {v : V} (h : find3 R x = none) : (putR R x f v).map (·.2.2) = R.map (·.2.2) ++ [v] := by
  rw [putR_new h, List.map_append]; rfl
theorem upd_pro_wr {W : Wd} {k l : Nat} {R : R3} {al : Bool} {sp : Addr} {S : SM} : (W.upd k ((W.A k).wr R) al sp S).pro l = W.pro l := upd_pro (.inr rfl)
theorem sp_put {σ : H} {W : Wd} (h : BI σ W) {k : Nat} (hk : k < W.m) {x : Str} {f : Int} {v : V} (hx : x ∈ abc) (hf0 : 0 ≤ f) (hf1 : f < 16) (hv : vOk f v) {Q : V → H → Prop}
    (q : ∀ σ' W', BI σ' W' → Step W W' k → W'.A k = (W.A k).wr (putR (W.A k).rows x f v) → FrB σ σ' → (∀ v0, find3 (W.A k).rows x = some (f, v0) → W'.al k = W.al k ∧ W'.sp k = W.sp k) → Q .none σ') : F_Store_put [stv (W.st k), .str x, .int f, v] σ Q := by
  have T := h.st k hk
  obtain ⟨t, f16⟩ := T.f16
  have hlen := T.good.len
  have hG := T.good.put hx hf0 hf1 hv
  have f17 := T.f17
  refine q_def rfl ?_
  unfold B_Store_put
  cases ha : W.al k with
  | true =>
    rw [ha] at f17
    have ht := (T.alone ha).2.2 t f16
    repeat (walk_at "st")
    refine q_putS (by walk_at "ev") (by walk_at "ev") (by walk_at "ev") (by rw [ht, List.length_map]; exact pc1) fun e => ?_
    rw [ht, putR_dput T.good.nd]
    repeat (walk_at "st")
    exact q _ _ (h.putTab hk ha f16 hG e) (upd_step (.refl _) fun _ => rfl) upd_A .setS1 fun _ _ => ⟨upd_al.trans ha.symm, upd_sp⟩
  | false =>
    rw [ha] at f17
    obtain ⟨f14, ⟨i, hi, ir, io, ip⟩, ⟨sl, f15, hs⟩, htb⟩ := T.shared ha
    refine q_iffC (by walk_at "ev") (e_meth (by walk_at "ev") rfl (by walk_at "ev") (sp_place h.si hi x fun σ1 H1 F1 => ?_))
    have h1 := h.read F1.r H1
    have T1 := h1.st k hk
    have I1 := h1.si.sh _ _ hi
    have g17 : σ1.fld 2 (W.st k) 17 = some (.bool false) := by rw [F1.eq, f17]
    have g14 : σ1.fld 2 (W.st k) 14 = some (shv (W.sp k)) := by rw [F1.eq, f14]
    have g13 := T1.f13
    have g15 : σ1.fld 2 (W.st k) 15 = some (.ref (.lst 1) sl) := by rw [F1.eq, f15]
    have g16 : σ1.fld 2 (W.st k) 16 = some (.ref (.dS 1) t) := by rw [F1.eq, f16]
    have gs : σ1.lst 1 sl = (W.A k).rows.map (·.2.2) := by rw [F1.r.l1]; exact hs
    have g5 := I1.f5
    have g6 := I1.f6
    have g10 := h1.si.t10
    have ilen := I1.good.len
    have h4 : ¬ ((4 : Int) ≤ (i.rows.length : Int)) := by omega
    rw [ir]
    cases hx' : idxR 0 ((W.A k).rows.map kf) x with
    | none =>
      have hn := idx3_none.mp hx'
      cases ho : i.op with
      | false =>
        rw [ho] at g6
        repeat (walk_at "st")
        refine q_expr (e_meth (by walk_at "ev") rfl (by walk_at "ev") (sp_go_alone h1 hk fun σ2 W2 h2 s2 a2 A2 F2 => ?_))
        have hk2 : k < W2.m := by rw [s2.m]; exact hk
        have T2 := h2.st k hk2
        obtain ⟨t2, f16'⟩ := T2.f16
        have ht := (T2.alone a2).2.2 t2 f16'
        have f17' := T2.f17
        have f16 := f16'
        rw [s2.st] at f16' f17'
        rw [A2] at ht
        rw [a2] at f17'
        repeat (walk_at "st")
        refine q_putS (by walk_at "ev") (by walk_at "ev") (by walk_at "ev") (by rw [ht, List.length_map]; exact pc1) fun e => ?_
        rw [ht, putR_dput T.good.nd]
        repeat (walk_at "st")
        refine q _ _ (h2.putTab hk2 a2 f16 (A2 ▸ hG) e) (s2.trans (upd_step (.refl _) fun _ => rfl)) (by rw [upd_A, A2]) ((F1.b.trans F2).trans .setS1) fun v0 e => ?_
        rw [hn] at e; cases e
      | true =>
        rw [ho] at g6
        repeat (walk_at "st")
        refine q_putFC (e_meth (by walk_at "ev") rfl (by walk_at "ev") (sp_added H1 hi ho (by rw [ir, ← idxR_none (n := 0)]; exact hx') hx hf0 hf1 fun σ2 S2 b j H2 e2 F2 L2 hb r2 p2 o2 => k_put (by walk_at "ev") ?_))
        have l15 : (σ2.setF 2 (W.st k) 14 (shv b)).fld 2 (W.st k) 15 = some (.ref (.lst 1) sl) := (setF_f (by decide)).trans ((congrFun (congrFun F2.eq _) _).trans g15)
        have ls : σ2.lst 1 sl = (W.A k).rows.map (·.2.2) := (L2 1 sl).trans gs
        repeat (walk_at "st")
        refine q_expr (e_append (by walk_at "ev") (by walk_at "ev") (by rw [rd_setF_lst, ls, List.length_map]; exact pc1) ?_)
        repeat (walk_at "st")
        rw [rd_setF_lst, ls]
        have nx : σ1.nxt ≤ σ2.nxt := F2.nxt
        refine q _ _ (h1.setSh (o := (W.A k).wr (putR (W.A k).rows x f v)) hk ha g15 (H2.eqv ?_ ?_ ?_ rfl rfl rfl (Nat.le_refl _)) e2 hb ?_ ?_ ?_ hG (h.abv k hk) nx ?_ ?_ ?_ ?_ ?_ ?_) (upd_step e2 fun e => nomatch ha.symm.trans e) upd_A ⟨Nat.le_trans F1.nxt nx, ?_, ?_, ?_⟩ fun v0 e => ?_
        · exact (setF_cl (by decide) : (σ2.setF 2 (W.st k) 14 (shv b)).fld 0 = _)
        · exact (setF_cl (by decide) : (σ2.setF 2 (W.st k) 14 (shv b)).fld 1 = _)
        · intro p; exact setF_f (by decide)
        · rw [r2, ir]; exact (wr_kf_put hn).symm
        · exact o2.trans (ho.symm.trans io)
        · rw [p2, ip, upd_pro_wr]
        · intro q f hf; exact (setF_f hf).trans (congrFun (congrFun F2.eq _) _)
        · intro q hq; exact (setF_a hq).trans (congrFun (congrFun F2.eq _) _)
        · exact setF_at
        · exact F2.r.d1
        · intro s hs'; exact (setL_a hs').trans (L2 1 s)
        · exact setL_at.trans (wr_v_put hn).symm
        · intro c hc
          exact (setF_cl (by exact pc5)).trans ((F2.fld c (by exact pc7)).trans (F1.fld c (by exact pc7)))
        · intro c hc
          funext a; exact (setL_k (by exact pc5)).trans ((L2 c a).trans (F1.lst c a (by omega)))
        · intro c hc
          exact (F2.dS c (by exact pc7)).trans (F1.dS c (by exact pc7))
        · rw [hn] at e; cases e
    | some p =>
      obtain ⟨n, f0⟩ := p
      obtain ⟨j, v0, hn, hj, hf⟩ := idx3_some hx'
      rw [Nat.zero_add] at hn
      subst hn
      have hj' : n < (W.A k).rows.length := (List.getElem?_eq_some_iff.mp hj).1
      have hset : putR (W.A k).rows x f v = (W.A k).rows.set n (x, f, v) := putR_set (n := 0) (f0 := f0) (by rw [Nat.zero_add]; exact hx')
      repeat (walk_at "st")
      refine q_putL (by walk_at "ev") (by walk_at "ev") (by walk_at "ev") (by rw [gs, List.length_map]; exact ⟨by exact pa1, by exact pd3, hj'⟩) ?_
      rw [gs]
      have hks : (putR (W.A k).rows x f v).map kf = i.rows.set n (x, f) := by rw [hset, List.map_set, ← ir]; rfl
      have hvs : (putR (W.A k).rows x f v).map (·.2.2) = ((W.A k).rows.map (·.2.2)).set n v := by rw [hset, List.map_set]
      by_cases hff : f = f0
      · subst hff
        repeat (walk_at "st")
        refine q _ _ (h1.setSh (o := (W.A k).wr (putR (W.A k).rows x f v)) hk ha g15 (H1.eqv rfl rfl (fun _ => rfl) rfl rfl rfl (Nat.le_refl _)) (.refl _) hi ?_ ?_ ?_ hG (h.abv k hk) (Nat.le_refl _) ?_ ?_ ?_ ?_ ?_ ?_) (upd_step (.refl _) fun e => nomatch ha.symm.trans e) upd_A ⟨F1.nxt, ?_, ?_, ?_⟩ fun v0 e => ⟨upd_al.trans ha.symm, upd_sp⟩
        · show i.rows = (putR (W.A k).rows x f v).map kf
          rw [hks]
          refine List.ext_getElem? fun j => ?_
          rw [List.getElem?_set]
          split
          · rename_i e; subst e
            rw [ir, List.getElem?_map, hj]; simp [hj', kf]
          · rfl
        · rw [io]; rfl
        · rw [ip, upd_pro_wr]
        · intro q f hf; rfl
        · intro q hq; rfl
        · exact g14
        · rfl
        · intro s hs'; exact setL_a hs'
        · exact setL_at.trans hvs.symm
        · intro c hc; exact F1.fld c (by exact pc7)
        · intro c hc
          funext a; exact (setL_k (by exact pc5)).trans (F1.lst c a (by omega))
        · intro c hc; exact F1.dS c (by exact pc7)
      · repeat (walk_at "st")
        repeat (walk_at "st")
        obtain ⟨pn, hpn⟩ := pro_key h1 hk
        refine q_expr (e_meth (by walk_at "ev") rfl (by walk_at "ev") (sp_reflag (i := i) (f0 := f0) (x := x) (σ := σ1.setL 1 sl (((W.A k).rows.map (·.2.2)).set n v)) (H1.eqv rfl rfl (fun _ => rfl) rfl rfl rfl (Nat.le_refl _)) g13 g14 hi (by rw [ir, List.getElem?_map, hj]; rfl) hf0 hf1 (n := pn) ?_ fun σ2 S2 b j H2 e2 F2 hb r2 p2 o2 => ?_))
        · rw [ip]
          unfold pkey at hpn ⊢
          exact hpn
        · repeat (walk_at "st")
          have nx : σ1.nxt ≤ σ2.nxt := F2.nxt
          refine q _ _ (h1.setSh (o := (W.A k).wr (putR (W.A k).rows x f v)) hk ha g15 (H2.setF2 (by decide)) e2 hb ?_ ?_ ?_ hG (h.abv k hk) nx ?_ ?_ ?_ ?_ ?_ ?_) (upd_step e2 fun e => nomatch ha.symm.trans e) upd_A ⟨Nat.le_trans F1.nxt nx, ?_, ?_, ?_⟩ fun v0 e => ?_
          · rw [r2]; exact hks.symm
          · rw [o2, io]; rfl
          · rw [p2, ip, upd_pro_wr]
          · intro q f hf; exact (setF_f hf).trans (congrFun (congrFun F2.eq _) _)
          · intro q hq; exact (setF_a hq).trans (congrFun (congrFun F2.eq _) _)
          · exact setF_at
          · exact F2.r.d1
          · intro s hs'; exact (congrFun F2.r.l1 s).trans (setL_a hs')
          · exact (congrFun F2.r.l1 sl).trans (setL_at.trans hvs.symm)
          · intro c hc
            exact (setF_cl (by exact pc5)).trans ((F2.fld c (by exact pc7)).trans (F1.fld c (by exact pc7)))
          · intro c hc
            funext a; exact (F2.lst c a (by omega)).trans ((setL_k (by exact pc5)).trans (F1.lst c a (by omega)))
          · intro c hc
            exact (F2.dS c (by exact pc7)).trans (F1.dS c (by exact pc7))
          · rw [hf] at e; cases e; exact absurd rfl hff
end
section
set_option linter.unusedSimpArgs false
set_option maxHeartbeats 4000000
set_option maxRecDepth 10000
theorem abc_strOk {x : Str} (h : x ∈ abc) : PyData.strOk x = true := by
  simp only [abc, List.mem_cons, List.not_mem_nil, or_false] at h
  rcases h with rfl | rfl | rfl <;> decide +kernel
theorem abc_pl {x : Str} (h : x ∈ abc) : (V.str x).pl 4 = true := abc_strOk h
theorem delR_none {r : R3} {x : Str} (h : find3 r x = none) : delR r x = r := by
  unfold delR
  rw [List.filter_eq_self]
  intro y hy
  have := find3_keys.mp h
  simp only [decide_eq_true_eq]
  exact fun e => this (e ▸ List.mem_map_of_mem hy)
theorem wr_self (o : OA) : o.wr o.rows = o := rfl
theorem sp_remove {σ : H} {W : Wd} (h : BI σ W) {k : Nat} (hk : k < W.m) {x : Str} (hx : x ∈ abc) {Q : V → H → Prop}
    (q : ∀ σ' W', BI σ' W' → Step W W' k → W'.A k = (W.A k).wr (delR (W.A k).rows x) → FrB σ σ' → Q .none σ') : F_Store_remove [stv (W.st k), .str x] σ Q := by
  have T := h.st k hk
  obtain ⟨t, f16⟩ := T.f16
  have f17 := T.f17
  have hlen := T.good.len
  have hG := T.good.del (x := x)
  refine q_def rfl ?_
  cases ha : W.al k with
  | true =>
    rw [ha] at f17
    have ht := (T.alone ha).2.2 t f16
    repeat (walk_at "st")
    refine q_expr (e_popD (by walk_at "ev") (by walk_at "ev") Ev.con (by rw [ht, List.length_map]; exact pc1) fun e => ?_)
    rw [ht, delR_ddel]
    repeat (walk_at "st")
    exact q _ _ (h.putTab hk ha f16 hG e) (upd_step (.refl _) fun _ => rfl) upd_A .setS1
  | false =>
    rw [ha] at f17
    obtain ⟨f14, ⟨i, hi, ir, io, ip⟩, ⟨sl, f15, hs⟩, htb⟩ := T.shared ha
    have I := h.si.sh _ _ hi
    have f3 := I.f3
    have f1 := I.f1
    have hpl : (keyV i.key).pl 4 = true := by
      cases hk : i.key with
      | none => rfl
      | some y =>
        cases hb : i.bef with
        | none => exact absurd (I.bef0 hb).2.1 (by rw [hk]; exact fun e => nomatch e)
        | some b =>
          obtain ⟨j, -, -, -, -, er⟩ := I.bef b hb
          exact abc_pl (I.good.2 (y, i.flg) (by rw [er, hk]; exact List.mem_append_right _ (.head _))).1
    repeat (walk_at "st")
    by_cases hkx : i.key = some x
    · refine q_ift (Et.eqv (by walk_at "ev") (by walk_at "ev") hpl (abc_pl hx) (decide_eq_true (by rw [hkx]; rfl))) ?_
      cases hb : i.bef with
      | none => exact absurd (I.bef0 hb).2.1 (by rw [hkx]; exact fun e => nomatch e)
      | some b =>
        obtain ⟨j, hj, -, jp, jo, er⟩ := I.bef b hb
        have hop : i.op = true := I.keyop (by rw [hkx]; exact fun e => nomatch e)
        rw [hkx] at er
        rw [hb] at f1
        obtain ⟨R0, y, hR⟩ : ∃ R0 y, (W.A k).rows = R0 ++ [y] := by
          rcases List.eq_nil_or_concat (W.A k).rows with e | ⟨R0, y, e⟩
          · rw [ir, e] at er; exact absurd (congrArg List.length er) (by rw [List.length_append]; exact fun z => Nat.succ_ne_zero _ z.symm)
          · exact ⟨R0, y, by rw [e, List.concat_eq_append]⟩
        rw [ir, hR, List.map_append] at er
        obtain ⟨er, ey⟩ := List.append_inj' er rfl
        have hy : y.1 = x := congrArg Prod.fst (List.cons.inj ey).1
        have hdel : delR (W.A k).rows x = R0 := by
          have nd := T.good.nd
          rw [hR, List.map_append, List.nodup_append] at nd
          unfold delR
          rw [hR, List.filter_append, List.filter_eq_self.mpr fun z hz => ?_]
          · rw [List.filter_cons_of_neg (by rw [hy]; exact fun z => absurd rfl (of_decide_eq_true z)), List.filter_nil, List.append_nil]
          · exact decide_eq_true fun e => nd.2.2 _ (List.mem_map_of_mem hz) y.1 (.head _) (e.trans hy.symm)
        have hs' : σ.lst 1 sl = R0.map (·.2.2) ++ [y.2.2] := by rw [hs, hR, List.map_append]; rfl
        rw [hR, List.length_append, List.length_singleton] at hlen
        rw [hdel] at hG
        repeat (walk_at "st")
        refine q_expr (e_pop (by walk_at "ev") (by rw [rd_setF_lst, hs', List.length_append, List.length_map, List.length_singleton]; exact pc1) (by rw [rd_setF_lst, hs']; exact List.getLast?_concat) ?_)
        rw [rd_setF_lst, hs', List.dropLast_concat]
        repeat (walk_at "st")
        refine q _ _ (h.setSh (o := (W.A k).wr (delR (W.A k).rows x)) hk ha f15 ((h.si.setF2 (p := W.st k) (f := 14) (v := shv b) (by decide)).eqv rfl rfl (fun _ => rfl) rfl rfl rfl (Nat.le_refl _)) (.refl _) hj ?_ ?_ ?_ (hdel ▸ hG) (h.abv k hk) (Nat.le_refl _) ?_ ?_ ?_ ?_ ?_ ?_) (upd_step (.refl _) fun e => nomatch ha.symm.trans e) upd_A ⟨Nat.le_refl _, ?_, ?_, ?_⟩
        · rw [hdel]; exact er.symm
        · exact jo.trans (hop.symm.trans io)
        · rw [jp, ip, upd_pro_wr]
        · intro q f hf; exact setF_f hf
        · intro q hq; exact setF_a hq
        · exact setF_at
        · rfl
        · intro s hs'; exact setL_a hs'
        · rw [hdel]; exact setL_at
        · intro c hc
          have : c ≠ 2 := by exact pc5
          exact setF_cl this
        · intro c hc
          exact setL_kl (by exact pc5)
        · intro c hc; rfl
    · have hne : decide (keyV i.key = .str x) = false := by
        rw [decide_eq_false_iff_not]
        cases hk : i.key with
        | none => exact fun e => nomatch e
        | some y => exact fun e => hkx (by rw [hk]; exact congrArg some (V.str.inj e))
      refine q_iff (Et.eqv (by walk_at "ev") (by walk_at "ev") hpl (abc_pl hx) hne) (q_cons (q_ifC (d_isn (e_meth (by walk_at "ev") rfl (by walk_at "ev") (sp_place h.si hi x fun σ1 H1 F1 => ?_)))))
      have h1 := h.read F1.r H1
      rw [ir]
      cases hx' : idxR 0 ((W.A k).rows.map kf) x with
      | none =>
        refine k_iff ?_
        repeat (walk_at "st")
        have := q σ1 W h1 (.refl _ _)
        rw [delR_none (idx3_none.mp hx'), wr_self] at this
        exact this rfl F1.b
      | some p =>
        obtain ⟨n, f0⟩ := p
        refine k_ift (q_cons (q_expr (e_meth (by walk_at "ev") rfl El.nil (sp_go_alone h1 hk fun σ2 W2 h2 s2 a2 A2 F2 => ?_))))
        have hk2 : k < W2.m := by rw [s2.m]; exact hk
        have T2 := h2.st k hk2
        obtain ⟨t2, f16'⟩ := T2.f16
        have ht := (T2.alone a2).2.2 t2 f16'
        rw [s2.st] at f16'
        rw [A2] at ht
        repeat (walk_at "st")
        refine q_expr (e_popD (by walk_at "ev") (by walk_at "ev") Ev.con (by rw [ht, List.length_map]; exact pc1) fun e => ?_)
        rw [ht, delR_ddel]
        repeat (walk_at "st")
        exact q _ _ (h2.putTab hk2 a2 (s2.st ▸ f16') hG e) (s2.trans (upd_step (.refl _) fun _ => rfl)) (by rw [upd_A, A2]) ((F1.b.trans F2).trans .setS1)
noncomputable def OA.wo (o : OA) (b : Bool) : OA := ⟨o.rows, o.abv, b⟩
noncomputable def OA.wa (o : OA) (b : Bool) : OA := ⟨o.rows, b, o.op⟩
theorem BI.setAl {σ : H} {W : Wd} (h : BI σ W) {k : Nat} (hk : k < W.m) (ha : W.al k = true) {o : OA} {f : Nat} {v : V} (hf : f ≠ 0 ∧ f ≠ 13 ∧ f ≠ 15 ∧ f ≠ 16 ∧ f ≠ 17) (ho : o.rows = (W.A k).rows) (hab : o.abv = true → 0 < k)
    (h18 : (σ.setF 2 (W.st k) f v).fld 2 (W.st k) 18 = some (proV ((W.upd k o true (W.sp k) W.S).pro k))) (h19 : (σ.setF 2 (W.st k) f v).fld 2 (W.st k) 19 = some (.bool o.op)) : BI (σ.setF 2 (W.st k) f v) (W.upd k o true (W.sp k) W.S) := by
  have T := h.st k hk
  obtain ⟨n0, n13, n15, n16, n17⟩ := hf
  refine h.upd hk (.refl _) (h.si.setF2 n0) ?_ (Nat.le_refl _) hab ?_ ?_ ?_ (fun _ _ _ => rfl) (fun _ _ _ => rfl)
  · refine ⟨?_, (setF_f (Ne.symm n13)).trans T.f13, (setF_f (Ne.symm n17)).trans (ha ▸ T.f17), ?_, T.lt, ho ▸ T.good, fun _ => ⟨h18, h19, fun t ht => ?_⟩, fun e => nomatch e⟩
    · rw [setF_f (Ne.symm n0)]; exact T.num
    · rw [setF_f (Ne.symm n16)]; exact T.f16
    · rw [setF_f (Ne.symm n16)] at ht
      rw [ho]; exact (T.alone ha).2.2 t ht
  · exact fun q hq => setF_al hq
  · exact setF_f (Ne.symm n16)
  · exact fun t ht => .inl ((setF_f (Ne.symm n15)).symm.trans ht)
theorem FrB.setF2 {σ : H} {p : Addr} {f : Nat} {v : V} : FrB σ (σ.setF 2 p f v) :=
  ⟨Nat.le_refl _, fun c hc => setF_cl (by exact pc5), fun _ _ => rfl, fun _ _ => rfl⟩
theorem sp_close {σ : H} {W : Wd} (h : BI σ W) {k : Nat} (hk : k < W.m) {Q : V → H → Prop}
    (q : ∀ σ' W', BI σ' W' → Step W W' k → W'.A k = (W.A k).wo false → FrB σ σ' → Q .none σ') : F_Store_close [stv (W.st k)] σ Q := by
  have T := h.st k hk
  have wp : ∀ al sp S, (W.upd k ((W.A k).wo false) al sp S).pro k = W.pro k := fun _ _ _ => upd_pro (.inr rfl)
  have f17 := T.f17
  have f13 := T.f13
  refine q_def rfl ?_
  cases ha : W.al k with
  | true =>
    rw [ha] at f17
    repeat (walk_at "st")
    exact q _ _ (h.setAl hk ha (o := (W.A k).wo false) ⟨by decide, by decide, by decide, by decide, by decide⟩ rfl (h.abv k hk) (by rw [wp]; exact (setF_f (by decide)).trans (T.alone ha).1) setF_at) (upd_step (.refl _) fun _ => rfl) upd_A .setF2
  | false =>
    rw [ha] at f17
    obtain ⟨f14, ⟨i, hi, ir, io, ip⟩, ⟨sl, f15, hs⟩, htb⟩ := T.shared ha
    repeat (walk_at "st")
    refine q_putFC (e_meth (by walk_at "ev") rfl (by walk_at "ev") (sp_shut h.si hi fun σ2 S2 b j H2 e2 F2 L2 hb r2 p2 o2 => ?_))
    repeat (walk_at "st")
    exact q _ _ (h.setSh (o := (W.A k).wo false) hk ha f15 (H2.setF2 (by decide)) e2 hb (r2.trans ir) o2 (by rw [p2, ip, wp]) T.good (h.abv k hk) F2.nxt (fun q f hf => (setF_f hf).trans (congrFun (congrFun F2.eq _) _)) (fun q hq => (setF_a hq).trans (congrFun (congrFun F2.eq _) _)) setF_at F2.r.d1 (fun s _ => L2 1 s) ((L2 1 sl).trans hs)) (upd_step e2 fun e => nomatch ha.symm.trans e) upd_A (F2.b.trans .setF2)
theorem sp_set_proto {σ : H} {W : Wd} (h : BI σ W) {k : Nat} (hk : k < W.m) {b : Bool} (hb : b = true → 0 < k) {v : V} (hv : v = proV (if b then some (W.st (k - 1)) else none)) {Q : V → H → Prop}
    (q : ∀ σ' W', BI σ' W' → Step W W' k → W'.A k = (W.A k).wa b → FrB σ σ' → Q .none σ') : F_Store_set_proto [stv (W.st k), v] σ Q := by
  have T := h.st k hk
  have wp : ∀ al sp S, (W.upd k ((W.A k).wa b) al sp S).pro k = if b then some (W.st (k - 1)) else none := fun _ _ _ => by
    unfold Wd.pro; rw [upd_A]; rfl
  have f17 := T.f17
  have f13 := T.f13
  refine q_def rfl ?_
  cases ha : W.al k with
  | true =>
    rw [ha] at f17
    repeat (walk_at "st")
    exact q _ _ (h.setAl hk ha (o := (W.A k).wa b) ⟨by decide, by decide, by decide, by decide, by decide⟩ rfl hb (by rw [wp, hv]; exact setF_at) ((setF_f (by decide)).trans (T.alone ha).2.1)) (upd_step (.refl _) fun _ => rfl) upd_A .setF2
  | false =>
    rw [ha] at f17
    obtain ⟨f14, ⟨i, hi, ir, io, ip⟩, ⟨sl, f15, hs⟩, htb⟩ := T.shared ha
    have I := h.si.sh _ _ hi
    have f6 := I.f6
    obtain ⟨n, hn⟩ : ∃ n, pkey σ (if b then some (W.st (k - 1)) else none) n := by
      cases b with
      | false => exact ⟨0, rfl⟩
      | true => have := hb rfl; exact (h.st (k - 1) (by exact pb1)).num
    repeat (walk_at "st")
    rw [hv]
    refine q_putFC (e_methC (by walk_at "ev") rfl (el_cons (e_meth (by walk_at "ev") rfl El.nil (sp_rows (h.si.ro' fun _ _ _ _ => rfl) hi fun c hc => el_val (by walk_at "ev") (e_cal (sp_built (h.si.newL hc) (Nat.lt_succ_self _) newL_at I.good (hn.fr (FrA.newL hc)) fun σ2 S2 b2 j H2 e2 F2 hb2 r2 p2 o2 => ?_))))))
    have F2 := (FrA.newL (l := i.rows.map rowV) hc).trans F2
    repeat (walk_at "st")
    exact q _ _ (h.setSh (o := (W.A k).wa b) hk ha f15 (H2.setF2 (by decide)) e2 hb2 (r2.trans ir) (o2.trans io) (by rw [p2, wp]) T.good hb F2.nxt (fun q f hf => (setF_f hf).trans (congrFun (congrFun F2.eq _) _)) (fun q hq => (setF_a hq).trans (congrFun (congrFun F2.eq _) _)) setF_at F2.r.d1 (fun s _ => congrFun F2.r.l1 s) ((congrFun F2.r.l1 sl).trans hs)) (upd_step e2 fun e => nomatch ha.symm.trans e) upd_A (F2.b.trans .setF2)
end
section
set_option linter.unusedSimpArgs false
set_option maxHeartbeats 4000000
set_option maxRecDepth 10000
noncomputable def hold (A : Nat → OA) (x : Str) : Nat → Nat × Option Nat
  | 0 => if (find3 (A 0).rows x).isNone then (1, none) else (0, some 0)
  | k + 1 => if (find3 (A (k + 1)).rows x).isNone then (if (A (k + 1)).abv then ((hold A x k).1 + 1, (hold A x k).2) else (1, none)) else (0, some (k + 1))
noncomputable def seen (A : Nat → OA) (x : Str) : Nat → Option (Int × V)
  | 0 => find3 (A 0).rows x
  | k + 1 => match find3 (A (k + 1)).rows x with | some p => some p | none => if (A (k + 1)).abv then seen A x k else none
noncomputable def hoV (W : Wd) : Option Nat → V | none => .none | some l => stv (W.st l)
theorem hold_seen {A : Nat → OA} {x : Str} : ∀ k, match (hold A x k).2 with | none => seen A x k = none | some l => l ≤ k ∧ find3 (A l).rows x = seen A x k ∧ (find3 (A l).rows x).isSome
  | 0 => by
    unfold hold seen
    cases h : find3 (A 0).rows x with
    | none => simp
    | some p => simp [h]
  | k + 1 => by
    have ih := hold_seen (A := A) (x := x) k
    unfold hold seen
    cases h : find3 (A (k + 1)).rows x with
    | none =>
      cases hb : (A (k + 1)).abv with
      | false => simp
      | true =>
        simp only [Option.isNone_none, if_true]
        cases hh : (hold A x k).2 with
        | none => rw [hh] at ih; exact ih
        | some l => rw [hh] at ih; exact ⟨Nat.le_succ_of_le ih.1, ih.2⟩
    | some p => simp [h]
noncomputable abbrev hoC : T1 := tAnd [(tCmp fIsNot (pV 0) (pK .none)), (tCmp fIs (pMeth [(2, F_Store_find)] (pV 0) (eCons (pV 1) eNil)) (pK .none))]
noncomputable abbrev hoB : S1 := sCons (sSet 0 (pMeth [(2, F_Store_above)] (pV 0) eNil)) (sCons (sAug 2 (pK (.int 1))) sNil)
theorem fvV_none {p : Option (Int × V)} : (fvV p).isN = p.isNone := by cases p <;> rfl
theorem ho_none {x : Str} {s : Int} {m : Nat} {σ : H} {Q : Fl → Ls → H → Prop} (q : Q .next [some .none, some (.str x), some (.int s)] σ) : whileN hoC hoB (m + 1) [some .none, some (.str x), some (.int s)] σ Q :=
  w_f (by walk_at "ev") q
theorem ho_loop {W : Wd} {x : Str} : ∀ (k : Nat) (σ : H) (s : Int) (m : Nat) (Q : Fl → Ls → H → Prop), BI σ W → k < W.m →
    (∀ σ', BI σ' W → FrR σ σ' → Q .next [some (hoV W (hold W.A x k).2), some (.str x), some (.int (s + ((hold W.A x k).1 : Int)))] σ') →
    whileN hoC hoB (k + 2 + m) [some (stv (W.st k)), some (.str x), some (.int s)] σ Q := by
  have core : ∀ (k : Nat) (σ : H) (s : Int) (m : Nat) (Q : Fl → Ls → H → Prop), BI σ W → k < W.m →
      (∀ σ', BI σ' W → FrR σ σ' → bsplit (find3 (W.A k).rows x).isNone (whileN hoC hoB (m + 1) [some (proV (W.pro k)), some (.str x), some (.int (s + 1))] σ' Q) (Q .next [some (stv (W.st k)), some (.str x), some (.int s)] σ')) →
      whileN hoC hoB (m + 2) [some (stv (W.st k)), some (.str x), some (.int s)] σ Q := by
    intro k σ s m Q h hk q
    refine w_go (d_at (by walk_at "ev") (d_and (d_is (e_meth (by walk_at "ev") rfl (by walk_at "ev") (sp_find h hk x fun σ' h' F => ?_)))))
    have q := q σ' h' F
    rw [fvV_none]
    cases e : (find3 (W.A k).rows x).isNone with
    | true =>
      rw [e] at q
      exact b_t (b_t (q_setC (e_meth (by walk_at "ev") rfl El.nil (sp_above h' hk (q_aug rfl Ev.con (w_end (q.1 rfl)))))))
    | false =>
      rw [e] at q
      exact b_f (b_f (q.2 rfl))
  intro k
  induction k with
  | zero =>
    intro σ s m Q h hk q
    rw [show 0 + 2 + m = m + 2 by exact pa11]
    refine core 0 σ s m Q h hk fun σ' h' F => ?_
    have hp : W.pro 0 = none := by
      unfold Wd.pro
      cases hb : (W.A 0).abv with
      | false => rfl
      | true => exact absurd (h.abv 0 hk hb) (Nat.lt_irrefl _)
    have q := q σ' h' F
    unfold hold at q
    refine ⟨fun e => ?_, fun e => ?_⟩
    · rw [hp]
      rw [if_pos e] at q
      exact ho_none q
    · rw [if_neg (by rw [e]; decide)] at q
      simpa [hoV] using q
  | succ k ih =>
    intro σ s m Q h hk q
    rw [show k + 1 + 2 + m = (k + 1 + m) + 2 by exact pa9]
    refine core (k + 1) σ s (k + 1 + m) Q h hk fun σ' h' F => ?_
    refine ⟨fun e => ?_, fun e => ?_⟩
    · unfold Wd.pro
      cases hb : (W.A (k + 1)).abv with
      | false =>
        have q := q σ' h' F
        unfold hold at q
        rw [if_pos e, hb] at q
        exact ho_none q
      | true =>
        rw [if_pos rfl, Nat.add_sub_cancel]
        rw [show k + 1 + m + 1 = k + 2 + m by exact pa8]
        refine ih σ' (s + 1) m Q h' (by exact pb6) fun σ2 h2 F2 => ?_
        have q := q σ2 h2 (F.trans F2)
        unfold hold at q
        rw [if_pos e, hb] at q
        rw [if_pos rfl, show s + (((hold W.A x k).1 + 1 : Nat) : Int) = s + 1 + ((hold W.A x k).1 : Int) by exact pa10] at q
        exact q
    · have q := q σ' h' F
      unfold hold at q
      rw [if_neg (by rw [e]; decide)] at q
      simpa [hoV] using q
section
variable {σ : H} {W : Wd} (h : BI σ W) {k : Nat} (hk : k < W.m) {Q : V → H → Prop}
include h hk
theorem sp_holder_of (x : Str) (q : ∀ σ', BI σ' W → FrR σ σ' → Q (.p2 (.int (hold W.A x k).1) (hoV W (hold W.A x k).2)) σ') : F_holder_of [stv (W.st k), .str x] σ Q := by
  refine q_def rfl ?_
  walk_at "st"
  refine q_while (k + 2 + 0) (ho_loop k σ 0 0 _ h hk fun σ' h' F => ?_)
  rw [Int.zero_add]
  repeat (walk_at "st")
  exact q σ' h' F
theorem sp_look (x : Str) (q : ∀ σ', BI σ' W → FrR σ σ' → Q (fvV (seen W.A x k)) σ') : F_look [stv (W.st k), .str x] σ Q := by
  refine q_def rfl (q_setC (e_sub (e_call (by walk_at "ev") (sp_holder_of h hk x fun σ' h' F => k_p21 ?_))))
  have hs := hold_seen (A := W.A) (x := x) k
  cases hh : (hold W.A x k).2 with
  | none =>
    rw [hh] at hs
    have hs : seen W.A x k = none := hs
    have q := q σ' h' F
    rw [hs] at q
    repeat (walk_at "st")
    exact q
  | some l =>
    rw [hh] at hs
    obtain ⟨hl, hs, -⟩ := hs
    refine q_retFC (e_iff (by walk_at "ev") (e_meth (by walk_at "ev") rfl (by walk_at "ev") (sp_find h' (Nat.lt_of_le_of_lt hl hk) x fun σ2 h2 F2 => ?_)))
    rw [hs]
    exact q σ2 h2 (F.trans F2)
end
end
section
set_option linter.unusedSimpArgs false
set_option maxHeartbeats 4000000
set_option maxRecDepth 10000
theorem and8t {f : Int} (h0 : 0 ≤ f) (h1 : f < 16) (h : 8 ≤ f) : Builtin.bitAnd f 8 ≠ 0 := by
  have : ∀ f ∈ flgs, 8 ≤ f → Builtin.bitAnd f 8 ≠ 0 := by decide +kernel
  exact this f (mem_flgs h0 h1) h
theorem and8f {f : Int} (h0 : 0 ≤ f) (h1 : f < 16) (h : ¬ 8 ≤ f) : Builtin.bitAnd f 8 = 0 := by
  have : ∀ f ∈ flgs, ¬ 8 ≤ f → Builtin.bitAnd f 8 = 0 := by decide +kernel
  exact this f (mem_flgs h0 h1) h
theorem and1t {f : Int} (h0 : 0 ≤ f) (h1 : f < 16) (h : ¬ f % 2 = 0) : Builtin.bitAnd f 1 ≠ 0 := by
  have : ∀ f ∈ flgs, ¬ f % 2 = 0 → Builtin.bitAnd f 1 ≠ 0 := by decide +kernel
  exact this f (mem_flgs h0 h1) h
theorem and1f {f : Int} (h0 : 0 ≤ f) (h1 : f < 16) (h : f % 2 = 0) : Builtin.bitAnd f 1 = 0 := by
  have : ∀ f ∈ flgs, f % 2 = 0 → Builtin.bitAnd f 1 = 0 := by decide +kernel
  exact this f (mem_flgs h0 h1) h
theorem GR3.found {R : R3} (h : GR3 R) {x : Str} {f : Int} {v : V} (hf : find3 R x = some (f, v)) : x ∈ abc ∧ 0 ≤ f ∧ f < 16 ∧ vOk f v := by
  have m := find3_mem hf
  have := h.1.2 (x, f) (List.mem_map.mpr ⟨_, m, rfl⟩)
  exact ⟨this.1, this.2.1, this.2.2, h.2 _ m⟩
theorem seen_good {W : Wd} {σ : H} (h : BI σ W) {x : Str} {f : Int} {v : V} : ∀ k, k < W.m → seen W.A x k = some (f, v) → 0 ≤ f ∧ f < 16 ∧ vOk f v
  | 0, hk, e => ((h.st 0 hk).good.found e).2
  | k + 1, hk, e => by
    unfold seen at e
    cases hf : find3 (W.A (k + 1)).rows x with
    | some p => rw [hf] at e; cases e; exact ((h.st (k + 1) hk).good.found hf).2
    | none =>
      rw [hf] at e
      cases hb : (W.A (k + 1)).abv with
      | false => rw [hb] at e; cases e
      | true => rw [hb] at e; exact seen_good h k (by exact pb6) e
theorem seen_own {A : Nat → OA} {x : Str} {p : Int × V} : ∀ {k}, find3 (A k).rows x = some p → seen A x k = some p
  | 0, e => e
  | k + 1, e => by unfold seen; rw [e]
noncomputable def comes (s : Option (Int × V)) (op : Bool) : Int := match s with
  | some p => if 8 ≤ p.1 then 2 else if p.1 % 2 = 0 then 0 else if op then 1 else 0
  | none => if op then 1 else 0
noncomputable def wcode (A : Nat → OA) (x : Str) (k : Nat) : Int := match find3 (A k).rows x with
  | some p => if 8 ≤ p.1 then 2 else if p.1 % 2 = 0 then 0 else 1
  | none => comes (seen A x k) (A k).op
noncomputable def wval (A : Nat → OA) (x : Str) (k : Nat) : V := match seen A x k with
  | some (f, .p2 _ s) => if 8 ≤ f then s else .none
  | _ => .none
noncomputable def wflag (A : Nat → OA) (x : Str) (k : Nat) : Int := match find3 (A k).rows x with
  | some p => p.1
  | none => 7
noncomputable def wrow (A : Nat → OA) (x : Str) (k : Nat) (v : V) : OA := if wcode A x k = 1 then (A k).wr (putR (A k).rows x (wflag A x k) v) else A k
theorem wval_none {A : Nat → OA} {x : Str} {k : Nat} (h : ∀ f v, seen A x k = some (f, v) → ¬ 8 ≤ f) : wval A x k = .none := by
  unfold wval
  split
  · rename_i f v s e; exact if_neg (h f _ e)
  · rfl
section
variable {σ : H} {W : Wd} (h : BI σ W) {k : Nat} (hk : k < W.m) {Q : V → H → Prop}
include h hk
theorem sp_may_come (x : Str) (q : ∀ σ', BI σ' W → FrR σ σ' → Q (.int (comes (seen W.A x k) (W.A k).op)) σ') : F_may_come [stv (W.st k), .str x] σ Q := by
  refine q_def rfl (q_setC (e_call (by walk_at "ev") (sp_look h hk x fun σ' h' F => ?_)))
  have q := q σ' h' F
  cases hs : seen W.A x k with
  | none =>
    rw [hs] at q
    repeat (walk_at "st")
    refine q_retFC (e_if (d_tval (e_meth (by walk_at "ev") rfl El.nil (sp_can_grow h' hk ?_))))
    cases ho : (W.A k).op <;> rw [ho] at q
    · exact b_f q
    · exact b_t q
  | some p =>
    obtain ⟨f, v⟩ := p
    rw [hs] at q
    obtain ⟨h0, h1, -⟩ := seen_good h k hk hs
    change Q (.int (if 8 ≤ f then 2 else if f % 2 = 0 then 0 else if (W.A k).op then 1 else 0)) σ' at q
    by_cases g8 : 8 ≤ f
    · rw [if_pos g8] at q
      have z := and8t h0 h1 g8
      repeat (walk_at "st")
      exact q
    · rw [if_neg g8] at q
      have z := and8f h0 h1 g8
      by_cases g1 : f % 2 = 0
      · rw [if_pos g1] at q
        have z1 := and1f h0 h1 g1
        repeat (walk_at "st")
        exact q
      · rw [if_neg g1] at q
        have z1 := and1t h0 h1 g1
        repeat (walk_at "st")
        refine q_retFC (e_if (d_tval (e_meth (by walk_at "ev") rfl El.nil (sp_can_grow h' hk ?_))))
        cases ho : (W.A k).op <;> rw [ho] at q
        · exact b_f q
        · exact b_t q
theorem sp_write {x : Str} (hx : x ∈ abc) (n : Int) (q : ∀ σ' W', BI σ' W' → Step W W' k → W'.A k = wrow W.A x k (.int n) → FrB σ σ' → (∀ p, find3 (W.A k).rows x = some p → W'.al k = W.al k ∧ W'.sp k = W.sp k) → Q (.p2 (.int (wcode W.A x k)) (wval W.A x k)) σ') : F_write [stv (W.st k), .str x, .int n] σ Q := by
  refine q_def rfl (q_setC (e_meth (by walk_at "ev") rfl (by walk_at "ev") (sp_find h hk x fun σ1 h1 F1 => ?_)))
  cases ho : find3 (W.A k).rows x with
  | none =>
    have hw : wcode W.A x k = comes (seen W.A x k) (W.A k).op := by unfold wcode; rw [ho]
    repeat (walk_at "st")
    refine q_setC (e_call (by walk_at "ev") (sp_may_come h1 hk x fun σ2 h2 F2 => ?_))
    have F2 := F1.trans F2
    rw [← hw]
    have n8 : wcode W.A x k ≠ 2 → wval W.A x k = .none := fun w2 => wval_none fun f v e g8 => w2 (by rw [hw, e]; exact if_pos g8)
    by_cases w1 : wcode W.A x k = 1
    · repeat (walk_at "st")
      refine q_expr (e_meth (by walk_at "ev") rfl (by walk_at "ev") (sp_put h2 hk hx (by decide) (by decide) ⟨rfl, fun e => absurd e (by decide)⟩ fun σ3 W3 h3 s3 A3 F3 _ => ?_))
      repeat (walk_at "st")
      have := q σ3 W3 h3 s3 (by rw [A3]; unfold wrow wflag; rw [if_pos w1, ho]) (F2.toFrB.trans F3) (by intro p e; rw [ho] at e; cases e)
      rw [n8 (by omega)] at this
      exact this
    · have hA : W.A k = wrow W.A x k (.int n) := by unfold wrow; rw [if_neg w1]
      by_cases w2 : wcode W.A x k = 2
      · repeat (walk_at "st")
        refine q_retFC (e_tup (el_consV (by walk_at "ev") (el_cons (e_ift (by walk_at "ev") (e_sub (e_sub (e_call (by walk_at "ev") (sp_look h2 hk x fun σ3 h3 F3 => ?_))))))))
        cases hs : seen W.A x k with
        | none =>
          rw [hw, hs] at w2
          change (if (W.A k).op then 1 else 0 : Int) = 2 at w2
          split at w2 <;> cases w2
        | some p =>
          obtain ⟨f, v⟩ := p
          have g8 : 8 ≤ f := Decidable.byContradiction fun g8 => by
            rw [hw, hs] at w2
            change (if 8 ≤ f then 2 else if f % 2 = 0 then 0 else if (W.A k).op then 1 else 0 : Int) = 2 at w2
            rw [if_neg g8] at w2
            split at w2
            · cases w2
            · split at w2 <;> cases w2
          obtain ⟨-, -, -, hv⟩ := seen_good h k hk hs
          obtain ⟨g, s, rfl, -⟩ := hv g8
          have hv : wval W.A x k = .str s := by unfold wval; rw [hs]; exact if_pos g8
          have := q σ3 W h3 (.refl _ _) hA (F2.trans F3).toFrB (by intro p e; rw [ho] at e; cases e)
          rw [hv] at this
          exact k_p21 (k_p21 this)
      · repeat (walk_at "st")
        have := q σ2 W h2 (.refl _ _) hA F2.toFrB (by intro p e; rw [ho] at e; cases e)
        rw [n8 w2] at this
        exact this
  | some p =>
    obtain ⟨f, v⟩ := p
    obtain ⟨-, h0, hf1, hv⟩ := (h.st k hk).good.found ho
    have hs := seen_own ho
    have hw : wcode W.A x k = if 8 ≤ f then 2 else if f % 2 = 0 then 0 else 1 := by unfold wcode; rw [ho]
    by_cases g8 : 8 ≤ f
    · rw [if_pos g8] at hw
      obtain ⟨g, s, rfl, -⟩ := hv.2 g8
      have hv : wval W.A x k = .str s := by unfold wval; rw [hs]; exact if_pos g8
      have hA : W.A k = wrow W.A x k (.int n) := by unfold wrow; rw [if_neg (by rw [hw]; decide)]
      have := q σ1 W h1 (.refl _ _) hA F1.toFrB (fun _ _ => ⟨rfl, rfl⟩)
      rw [hw, hv] at this
      have z := and8t h0 hf1 g8
      repeat (walk_at "st")
      exact this
    · rw [if_neg g8] at hw
      have z := and8f h0 hf1 g8
      have hv : wval W.A x k = .none := wval_none fun f' v' e => by rw [hs] at e; cases e; exact g8
      by_cases g1 : f % 2 = 0
      · rw [if_pos g1] at hw
        have hA : W.A k = wrow W.A x k (.int n) := by unfold wrow; rw [if_neg (by rw [hw]; decide)]
        have := q σ1 W h1 (.refl _ _) hA F1.toFrB (fun _ _ => ⟨rfl, rfl⟩)
        rw [hw, hv] at this
        have z1 := and1f h0 hf1 g1
        repeat (walk_at "st")
        exact this
      · rw [if_neg g1] at hw
        have z1 := and1t h0 hf1 g1
        repeat (walk_at "st")
        refine q_expr (e_meth (by walk_at "ev") rfl (by walk_at "ev") (sp_put h1 hk hx h0 hf1 ⟨rfl, fun e => absurd e g8⟩ fun σ3 W3 h3 s3 A3 F3 E3 => ?_))
        repeat (walk_at "st")
        have := q σ3 W3 h3 s3 (by rw [A3]; unfold wrow wflag; rw [if_pos hw, ho]) (F1.toFrB.trans F3) (fun p e => E3 v ho)
        rw [hw, hv] at this
        exact this
end
end
section
set_option linter.unusedSimpArgs false
set_option maxHeartbeats 4000000
set_option maxRecDepth 10000
set_option genInjectivity false in
structure En where
  ad : Addr
  sa : Addr
  gs : List Addr
  res : Option (Nat × Int)
  lt : Addr
noncomputable abbrev enV (e : En) : V := .ref (.inst 3) e.ad
def Ch (S : SM) (x : Str) : Addr → List Addr → Option (Nat × Int) → Prop
  | a, [], res => ∃ i, S a = some i ∧ idxR 0 i.rows x = res ∧ (res = none → i.pro = none)
  | a, g :: gs, res => ∃ i, S a = some i ∧ idxR 0 i.rows x = none ∧ i.pro ≠ none ∧ Ch S x g gs res
theorem Ch.ext {S S' : SM} {x : Str} (e : Ext S S') : ∀ {gs : List Addr} {a : Addr} {res : Option (Nat × Int)}, Ch S x a gs res → Ch S' x a gs res
  | [], _, _, ⟨i, h, r⟩ => ⟨i, e _ _ h, r⟩
  | _ :: _, _, _, ⟨i, h, r1, r2, r3⟩ => ⟨i, e _ _ h, r1, r2, r3.ext e⟩
theorem Ch.sh {S : SM} {x : Str} : ∀ {gs : List Addr} {a : Addr} {res : Option (Nat × Int)}, Ch S x a gs res → ∃ i, S a = some i
  | [], _, _, ⟨i, h, r⟩ => ⟨i, h⟩
  | _ :: _, _, _, ⟨i, h, _⟩ => ⟨i, h⟩
structure EnOk (σ : H) (S : SM) (x : Str) (e : En) : Prop where
  f14 : σ.fld 3 e.ad 14 = some (shv e.sa)
  f20 : ∃ g, σ.fld 3 e.ad 20 = some (.ref (.lst 3) g) ∧ g < σ.nxt ∧ σ.lst 3 g = e.gs.map shv
  some' : ∀ n f, e.res = some (n, f) → σ.fld 3 e.ad 21 = some (.int e.gs.length) ∧ σ.fld 3 e.ad 22 = some (.int n) ∧ σ.fld 3 e.ad 4 = some (.int f)
  none' : e.res = none → σ.fld 3 e.ad 22 = some .none
  lt : e.ad < σ.nxt
  ch : Ch S x e.sa e.gs e.res
  len : e.gs.length ≤ 4
structure FrE (σ σ' : H) : Prop where
  nxt : σ.nxt ≤ σ'.nxt
  fld : ∀ c, 4 ≤ c → σ'.fld c = σ.fld c
  lst : ∀ k, 4 ≤ k → σ'.lst k = σ.lst k
  dS : ∀ k, 2 ≤ k → σ'.dS k = σ.dS k
  f3 : ∀ a, a < σ.nxt → σ'.fld 3 a = σ.fld 3 a
  l3 : ∀ a, a < σ.nxt → σ'.lst 3 a = σ.lst 3 a
theorem FrE.trans {a b c : H} (x : FrE a b) (y : FrE b c) : FrE a c :=
  ⟨Nat.le_trans x.nxt y.nxt, fun c h => (y.fld c h).trans (x.fld c h), fun k h => (y.lst k h).trans (x.lst k h), fun k h => (y.dS k h).trans (x.dS k h), fun p h => (y.f3 p (Nat.lt_of_lt_of_le h x.nxt)).trans (x.f3 p h), fun p h => (y.l3 p (Nat.lt_of_lt_of_le h x.nxt)).trans (x.l3 p h)⟩
theorem FrB.e {σ σ' : H} (h : FrB σ σ') : FrE σ σ' := ⟨h.nxt, fun c hc => h.fld c (by exact pc7), fun k hk => h.lst k (by exact pc7), fun k hk => h.dS k hk, fun a _ => by rw [h.fld 3 (by omega)], fun a _ => by rw [h.lst 3 (by omega)]⟩
theorem EnOk.mono {σ σ' : H} {S S' : SM} {x : Str} {e : En} (h : EnOk σ S x e) (E : Ext S S') (hn : σ.nxt ≤ σ'.nxt) (f3 : ∀ a, a < σ.nxt → σ'.fld 3 a = σ.fld 3 a) (l3 : ∀ a, a < σ.nxt → σ'.lst 3 a = σ.lst 3 a) : EnOk σ' S' x e := by
  have q := f3 e.ad h.lt
  obtain ⟨g, g1, g2, g3⟩ := h.f20
  exact ⟨by rw [q]; exact h.f14, ⟨g, by rw [q]; exact g1, Nat.lt_of_lt_of_le g2 hn, by rw [l3 g g2]; exact g3⟩, by rw [q]; exact h.some', by rw [q]; exact h.none', Nat.lt_of_lt_of_le h.lt hn, h.ch.ext E, h.len⟩
def Hm (W : Wd) : Nat → Addr → List Addr → Prop
  | k, a, [] => W.al k = false ∧ W.sp k = a
  | k, a, g :: gs => W.al k = false ∧ W.sp k = a ∧ (W.A k).abv = true ∧ Hm W (k - 1) g gs
theorem Hm.hd {W : Wd} {k : Nat} {a : Addr} : ∀ {gs : List Addr}, Hm W k a gs → W.al k = false ∧ W.sp k = a
  | [], h => h
  | _ :: _, h => ⟨h.1, h.2.1⟩
structure Shd (σ : H) (W : Wd) (k : Nat) (i : Sh) : Prop where
  f17 : σ.fld 2 (W.st k) 17 = some (.bool false)
  f14 : σ.fld 2 (W.st k) 14 = some (shv (W.sp k))
  S : W.S (W.sp k) = some i
  rows : i.rows = (W.A k).rows.map kf
  op : i.op = (W.A k).op
  pro : i.pro = W.pro k
  f0 : σ.fld 0 (W.sp k) 0 = some (.int i.num)
theorem BI.shd {σ : H} {W : Wd} (h : BI σ W) {k : Nat} (hk : k < W.m) (ha : W.al k = false) : ∃ i, Shd σ W k i := by
  have T := h.st k hk
  obtain ⟨f14, ⟨i, hi, ir, io, ip⟩, -, -⟩ := T.shared ha
  exact ⟨i, ha ▸ T.f17, f14, hi, ir, io, ip, (h.si.sh _ _ hi).f0⟩
theorem num_ne {σ : H} {W : Wd} (h : BI σ W) {a b : Addr} {i j : Sh} (ha : W.S a = some i) (hb : W.S b = some j) (e : a ≠ b) : i.num ≠ j.num := fun z => e (h.si.inj _ _ _ _ ha hb z)
theorem num_eq {W : Wd} {a b : Addr} {i j : Sh} (ha : W.S a = some i) (hb : W.S b = some j) (e : a = b) : i.num = j.num := by
  subst e; rw [ha] at hb; cases hb; rfl
noncomputable abbrev hldB : S1 := sCons (sSet 1 (pMeth [(2, F_Store_above)] (pV 1) eNil)) (sCons (sIf (tOr [(tVal (pF (pV 1) 17)), (tCmp fNe (pF (pF (pV 1) 14) 0) (pF (pV 2) 0))]) (sCons (sRet (pK (.bool false))) sNil) sNil) sNil)
theorem holds_loop {σ : H} {W : Wd} (h : BI σ W) {x : Str} {g : Addr} {self : V} : ∀ (gs : List Addr) (pre : List Addr) (k : Nat) (a : Addr) (res : Option (Nat × Int)) (l2 : Option V) (Q : Fl → Ls → H → Prop), k < W.m → W.al k = false → W.sp k = a → Ch W.S x a gs res → σ.lst 3 g = (pre ++ gs).map shv →
    (¬ Hm W k a gs → ∀ ls, Q (.ret (.bool false)) ls σ) → (Hm W k a gs → ∀ ls, Q .next ls σ) → forL (aVar 2) hldB (gs.map shv) (.lst 3 g pre.length) [some self, some (stv (W.st k)), l2] σ Q := by
  intro gs
  induction gs with
  | nil => intro pre k a res l2 Q hk hal hsp hc hl q1 q2; exact q2 ⟨hal, hsp⟩ _
  | cons b gs ih =>
    intro pre k a res l2 Q hk hal hsp hc hl q1 q2
    obtain ⟨i, hi, hx, hp, hc⟩ := hc
    obtain ⟨i', D⟩ := h.shd hk hal
    obtain rfl : i' = i := by have := D.S; rw [hsp, hi] at this; cases this; rfl
    have hpro : (W.A k).abv = true ∧ W.pro k = some (W.st (k - 1)) := by
      have := D.pro
      unfold Wd.pro at this ⊢
      cases hb : (W.A k).abv with
      | false => rw [hb] at this; exact absurd this hp
      | true => exact ⟨rfl, rfl⟩
    have hk1 : k - 1 < W.m := by exact pb1
    obtain ⟨ib, hib⟩ := hc.sh
    have f17 := (h.st (k - 1) hk1).f17
    have fb := (h.si.sh _ _ hib).f0
    refine f_var (q_setC (e_meth (by walk_at "ev") rfl (by walk_at "ev") (sp_above h hk ?_)))
    rw [hpro.2]
    cases hal1 : W.al (k - 1) with
    | true =>
      rw [hal1] at f17
      refine q_ift (by walk_at "ev") (q_cons (f_ret Ev.con (q1 (fun z => by have := z.2.2.2.hd.1; rw [hal1] at this; cases this) _)))
    | false =>
      rw [hal1] at f17
      obtain ⟨i1, D1⟩ := h.shd hk1 hal1
      have f14 := D1.f14
      have f0 := D1.f0
      by_cases e : W.sp (k - 1) = b
      · have z := num_eq D1.S hib e
        repeat (walk_at "st")
        refine f_end ?_ trivial ?_
        · show (σ.lst 3 g).drop (pre.length + 1) = _
          rw [hl, drop_mid]
        · have := ih (pre ++ [b]) (k - 1) b res (some (shv b)) Q hk1 hal1 e hc (by rw [List.append_assoc]; exact hl) (fun z => q1 fun y => z y.2.2.2) (fun z => q2 ⟨hal, hsp, hpro.1, z⟩)
          rw [List.length_append] at this
          exact this
      · have z := num_ne h D1.S hib e
        refine q_ift (by walk_at "ev") (q_cons (f_ret Ev.con (q1 (fun z => e z.2.2.2.hd.2) _)))
theorem sp_holds {σ : H} {W : Wd} (h : BI σ W) {k : Nat} (hk : k < W.m) {x : Str} {e : En} (he : EnOk σ W.S x e) {Q : V → H → Prop} (q : ∀ b, (b = true ↔ Hm W k e.sa e.gs) → Q (.bool b) σ) : F_Entry_holds [enV e, stv (W.st k)] σ Q := by
  have f17 := (h.st k hk).f17
  have e14 := he.f14
  refine q_def rfl ?_
  cases ha : W.al k with
  | true =>
    rw [ha] at f17
    repeat (walk_at "st")
    exact q false ⟨fun z => (nomatch z), fun z => by have := z.hd.1; rw [ha] at this; cases this⟩
  | false =>
    rw [ha] at f17
    obtain ⟨i, D⟩ := h.shd hk ha
    obtain ⟨j, hj⟩ := he.ch.sh
    have f14 := D.f14
    have f0 := D.f0
    have fj := (h.si.sh _ _ hj).f0
    by_cases e' : W.sp k = e.sa
    · have z := num_eq D.S hj e'
      obtain ⟨g, g1, g2, g3⟩ := he.f20
      repeat (walk_at "st")
      refine q_forL (by walk_at "ev") ?_
      rw [g3, List.drop_zero]
      refine holds_loop h (g := g) e.gs [] k e.sa e.res none _ hk ha e' he.ch g3 (fun z ls => ?_) (fun z ls => q_retF Ev.con ?_)
      · exact q false ⟨fun z => (nomatch z), fun y => absurd y z⟩
      · exact q true ⟨fun _ => z, fun _ => rfl⟩
    · have z := num_ne h D.S hj e'
      repeat (walk_at "st")
      exact q false ⟨fun z => (nomatch z), fun z => absurd z.hd.2 e'⟩
theorem holder_loop {σ : H} {W : Wd} (h : BI σ W) {self : V} : ∀ (gs : List Addr) (x : Int) (k : Nat) (a : Addr) (l2 : Option V) (Q : Fl → Ls → H → Prop), k < W.m → Hm W k a gs → (∀ l2, Q .next [some self, some (stv (W.st (k - gs.length))), l2] σ) →
    forL (aVar 2) (sCons (sSet 1 (pMeth [(2, F_Store_above)] (pV 1) eNil)) sNil) (rngV x gs.length) (.rng x gs.length) [some self, some (stv (W.st k)), l2] σ Q := by
  intro gs
  induction gs with
  | nil => intro x k a l2 Q hk hm q; exact q l2
  | cons b gs ih =>
    intro x k a l2 Q hk hm q
    obtain ⟨-, -, hb, hm⟩ := hm
    have hpro : W.pro k = some (W.st (k - 1)) := by unfold Wd.pro; rw [hb]; rfl
    refine f_var (q_setC (e_meth (by walk_at "ev") rfl (by walk_at "ev") (sp_above h hk ?_)))
    rw [hpro]
    refine f_end rfl trivial ?_
    exact ih (x + 1) (k - 1) b (some (.int x)) Q (by exact pb1) hm (fun l2 => by have := q l2; rw [List.length_cons] at this; rw [show k - 1 - gs.length = k - (gs.length + 1) by omega]; exact this)
theorem sp_holder {σ : H} {W : Wd} (h : BI σ W) {k : Nat} (hk : k < W.m) {x : Str} {e : En} (he : EnOk σ W.S x e) {n : Nat} {f : Int} (hr : e.res = some (n, f)) (hm : Hm W k e.sa e.gs) {Q : V → H → Prop} (q : Q (stv (W.st (k - e.gs.length))) σ) : F_Entry_holder [enV e, stv (W.st k)] σ Q := by
  have hlen := he.len
  have f21 := (he.some' n f hr).1
  refine q_def rfl (q_forR (by walk_at "ev") ⟨by exact pa1, by exact pc10⟩ ?_)
  refine holder_loop h e.gs 0 k e.sa none _ hk hm fun l2 => ?_
  repeat (walk_at "st")
  exact q
end
section
set_option linter.unusedSimpArgs false
set_option maxHeartbeats 4000000
set_option maxRecDepth 10000
theorem BI.eqv {σ σ' : H} {W : Wd} (h : BI σ W) (f : ∀ c, c < 3 → σ'.fld c = σ.fld c) (l1 : σ'.lst 1 = σ.lst 1) (d0 : σ'.dS 0 = σ.dS 0) (d1 : σ'.dS 1 = σ.dS 1) (dI : σ'.dI 0 = σ.dI 0) (dT : σ'.dT 0 = σ.dT 0) (hn : σ.nxt ≤ σ'.nxt) : BI σ' W where
  si := h.si.eqv (f 0 (by decide)) (f 1 (by decide)) (fun p => by rw [f 2 (by decide)]) dI dT d0 hn
  st := fun k hk => (h.st k hk).mono (.refl _) hn (by rw [f 2 (by decide)]) (fun t _ => by rw [d1]) fun t _ => by rw [l1]
  inj := h.inj
  i16 := by rw [f 2 (by decide)]; exact h.i16
  i15 := by rw [f 2 (by decide)]; exact h.i15
  l16 := by rw [f 2 (by decide)]; exact fun p t q => Nat.lt_of_lt_of_le (h.l16 p t q) hn
  l15 := by rw [f 2 (by decide)]; exact fun p t q => Nat.lt_of_lt_of_le (h.l15 p t q) hn
  abv := h.abv
  m4 := h.m4
  l2 := by rw [f 2 (by decide)]; exact fun p g v q => Nat.lt_of_lt_of_le (h.l2 p g v q) hn
theorem BI.newL {σ : H} {W : Wd} (h : BI σ W) {k : Nat} (hk : k ≠ 1) {c : Addr} {l : List V} (hc : σ.nxt ≤ c) : BI (σ.newL k c l) W :=
  h.eqv (fun _ _ => rfl) (newL_kl (Ne.symm hk)) rfl rfl rfl rfl (Nat.le_succ_of_le hc)
theorem BI.setF {σ : H} {W : Wd} (h : BI σ W) {c : Nat} (hc : 3 ≤ c) {a : Addr} {f : Nat} {v : V} : BI (σ.setF c a f v) W :=
  h.eqv (fun c' hc' => setF_cl (by exact pd4)) rfl rfl rfl rfl rfl (Nat.le_refl _)
theorem BI.newC {σ : H} {W : Wd} (h : BI σ W) {c : Nat} (hc : 3 ≤ c) {a : Addr} (ha : σ.nxt ≤ a) : BI (σ.newC c a) W :=
  h.eqv (fun c' hc' => newC_cl (by exact pd4)) rfl rfl rfl rfl rfl (Nat.le_succ_of_le ha)
noncomputable def gup (W : Wd) : Nat → Nat → Option (List Addr)
  | 0, _ => some []
  | n + 1, k => if (W.A k).abv then (if W.al (k - 1) then none else (gup W n (k - 1)).map (W.sp (k - 1) :: ·)) else some []
noncomputable def shar (W : Wd) (x : Str) : Nat → Bool
  | 0 => !W.al 0
  | k + 1 => !W.al (k + 1) && ((find3 (W.A (k + 1)).rows x).isSome || (!(W.A (k + 1)).abv || shar W x k))
noncomputable abbrev gupB : S1 := sCons (sSet 0 (pMeth [(2, F_Store_above)] (pV 0) eNil)) (sCons (sIf (tCmp fIs (pV 0) (pK .none)) (sCons (sRet (pV 2)) sNil) sNil) (sCons (sIf (tVal (pF (pV 0) 17)) (sCons (sRet (pK .none)) sNil) sNil) (sCons (sExpr (pAppend (pV 2) (pF (pV 0) 14))) sNil)))
theorem gup_loop {σ : H} {W : Wd} (h : BI σ W) {c : Addr} (hc : σ.nxt ≤ c) {v1 : V} : ∀ (n : Nat) (x : Int) (k : Nat) (acc : List Addr) (l3 : Option V) (Q : Fl → Ls → H → Prop), k < W.m → acc.length + n ≤ 900 →
    (gup W n k = none → ∀ ls l, Q (.ret .none) ls (σ.newL 3 c l)) →
    (∀ gs, gup W n k = some gs → (∀ ls, Q (.ret (.ref (.lst 3) c)) ls (σ.newL 3 c ((acc ++ gs).map shv))) ∧ ∀ v0 l3, Q .next [v0, some v1, some (.ref (.lst 3) c), l3] (σ.newL 3 c ((acc ++ gs).map shv))) →
    forL (aVar 3) gupB (rngV x n) (.rng x n) [some (stv (W.st k)), some v1, some (.ref (.lst 3) c), l3] (σ.newL 3 c (acc.map shv)) Q := by
  intro n
  induction n with
  | zero =>
    intro x k acc l3 Q hk hl q1 q2
    have := (q2 [] rfl).2 (some (stv (W.st k))) l3
    rw [List.append_nil] at this
    exact this
  | succ n ih =>
    intro x k acc l3 Q hk hl q1 q2
    have hB : BI (σ.newL 3 c (acc.map shv)) W := h.newL (by decide) hc
    refine f_var (q_setC (e_meth (by walk_at "ev") rfl El.nil (sp_above hB hk ?_)))
    unfold gup at q1 q2
    cases hb : (W.A k).abv with
    | false =>
      have hpro : W.pro k = none := by unfold Wd.pro; rw [hb]; rfl
      rw [hpro]
      rw [hb] at q2
      have := (q2 [] rfl).1
      rw [List.append_nil] at this
      repeat (walk_at "st")
      exact this _
    | true =>
      have hpro : W.pro k = some (W.st (k - 1)) := by unfold Wd.pro; rw [hb]; rfl
      have hk1 : k - 1 < W.m := by exact pb1
      have f17 := (h.st (k - 1) hk1).f17
      rw [hb, if_pos rfl] at q1 q2
      rw [hpro]
      cases hal : W.al (k - 1) with
      | true =>
        rw [hal] at q1 f17
        repeat (walk_at "st")
        exact q1 rfl _ _
      | false =>
        rw [hal] at q1 q2 f17
        obtain ⟨i, D⟩ := h.shd hk1 hal
        have f14 := D.f14
        repeat (walk_at "st")
        refine q_expr (e_append (by walk_at "ev") (by walk_at "ev") (by rw [newL_at, List.length_map]; exact pc9) (f_end rfl trivial ?_))
        rw [newL_at, newL_setL, show [shv (W.sp (k - 1))] = [W.sp (k - 1)].map shv from rfl, ← List.map_append]
        exact ih (x + 1) (k - 1) (acc ++ [W.sp (k - 1)]) (some (.int x)) Q hk1 (by rw [List.length_append, List.length_singleton]; exact pb2) (fun e => q1 (by rw [e]; rfl)) (fun gs e => by
            have := q2 (W.sp (k - 1) :: gs) (by rw [e]; rfl)
            rw [List.append_assoc]; exact this)
theorem sp_guards_up {σ : H} {W : Wd} (h : BI σ W) {k : Nat} (hk : k < W.m) {n : Nat} (hn : n ≤ 800) {Q : V → H → Prop}
    (q1 : gup W n k = none → ∀ c l, σ.nxt ≤ c → Q .none (σ.newL 3 c l)) (q2 : ∀ gs, gup W n k = some gs → ∀ c, σ.nxt ≤ c → Q (.ref (.lst 3) c) (σ.newL 3 c (gs.map shv))) : F_guards_up [stv (W.st k), .int n] σ Q := by
  refine q_def rfl (q_setC (e_list El.nil (Nat.zero_le _) fun c hc => q_forR (by walk_at "ev") ⟨by exact pa1, by exact pc10⟩ ?_))
  refine gup_loop h hc n 0 k [] none _ hk (by rw [List.length_nil]; exact pc8) (fun e ls l => ?_) (fun gs e => ⟨fun ls => ?_, fun v0 l3 => ?_⟩)
  · exact q1 e c l hc
  · exact q2 gs e c hc
  · repeat (walk_at "st")
    exact q2 gs e c hc
def PathOk (W : Wd) (x : Str) (k : Nat) (p : Nat × Option Nat) : Prop := ∃ gs res, gup W p.1 k = some gs ∧ Hm W k (W.sp k) gs ∧ Ch W.S x (W.sp k) gs res ∧ gs.length ≤ k ∧
      ((p.2 = none ∧ res = none) ∨ ∃ l, p.2 = some l ∧ l < W.m ∧ W.al l = false ∧ l + gs.length = k ∧ p.1 = gs.length ∧ ∃ n f, idxR 0 ((W.A l).rows.map kf) x = some (n, f) ∧ res = some (n, f))
theorem path_fnd {σ : H} {W : Wd} (h : BI σ W) {x : Str} {k : Nat} (hk : k < W.m) (hal : W.al k = false) {p : Int × V} (hf : find3 (W.A k).rows x = some p) : PathOk W x k (0, some k) := by
  obtain ⟨i, D⟩ := h.shd hk hal
  cases hx : idxR 0 ((W.A k).rows.map kf) x with
  | none => rw [idx3_none.mp hx] at hf; cases hf
  | some p => exact ⟨[], some p, rfl, ⟨hal, rfl⟩, ⟨i, D.S, by rw [D.rows]; exact hx, fun e => nomatch e⟩, Nat.zero_le _, .inr ⟨k, rfl, hk, hal, rfl, rfl, p.1, p.2, hx, rfl⟩⟩
theorem path_nof {σ : H} {W : Wd} (h : BI σ W) {x : Str} {k : Nat} (hk : k < W.m) (hal : W.al k = false) (hf : find3 (W.A k).rows x = none) (hb : (W.A k).abv = false) : PathOk W x k (1, none) := by
  obtain ⟨i, D⟩ := h.shd hk hal
  refine ⟨[], none, by unfold gup; rw [hb]; rfl, ⟨hal, rfl⟩, ⟨i, D.S, by rw [D.rows]; exact idx3_none.mpr hf, fun _ => ?_⟩, Nat.zero_le _, .inl ⟨rfl, rfl⟩⟩
  rw [D.pro]; unfold Wd.pro; rw [hb]; rfl
theorem path_up {σ : H} {W : Wd} (h : BI σ W) {x : Str} {k : Nat} (hk : k + 1 < W.m) (hal : W.al (k + 1) = false) (ha : W.al k = false) (hf : find3 (W.A (k + 1)).rows x = none) (hb : (W.A (k + 1)).abv = true) {p : Nat × Option Nat} (ih : PathOk W x k p) : PathOk W x (k + 1) (p.1 + 1, p.2) := by
  obtain ⟨gs, res, a, b, c, d, r⟩ := ih
  obtain ⟨i, D⟩ := h.shd hk hal
  refine ⟨W.sp k :: gs, res, ?_, ⟨hal, rfl, hb, b⟩, ⟨i, D.S, by rw [D.rows]; exact idx3_none.mpr hf, ?_, c⟩, Nat.succ_le_succ d, ?_⟩
  · show gup W (p.1 + 1) (k + 1) = _
    rw [gup, hb, if_pos rfl, Nat.add_sub_cancel, ha, a]; rfl
  · rw [D.pro]; unfold Wd.pro; rw [hb]; exact fun e => nomatch e
  · rcases r with r | ⟨l, r1, r2, r3, r4, r5, r6⟩
    · exact .inl r
    · exact .inr ⟨l, r1, r2, r3, by rw [List.length_cons]; omega, by rw [List.length_cons, r5], r6⟩
theorem path {σ : H} {W : Wd} (h : BI σ W) {x : Str} : ∀ k, k < W.m →
    (shar W x k = false → W.al k = true ∨ gup W (hold W.A x k).1 k = none) ∧ (shar W x k = true → W.al k = false ∧ PathOk W x k (hold W.A x k)) := by
  intro k
  induction k with
  | zero =>
    intro hk
    have hb : (W.A 0).abv = false := by
      cases hb : (W.A 0).abv with
      | false => rfl
      | true => exact absurd (h.abv 0 hk hb) (Nat.lt_irrefl _)
    unfold shar
    cases hal : W.al 0 with
    | true => exact ⟨fun _ => .inl rfl, fun e => nomatch e⟩
    | false =>
      refine ⟨fun e => (nomatch e), fun _ => ⟨rfl, ?_⟩⟩
      unfold hold
      cases hf : find3 (W.A 0).rows x with
      | none => exact path_nof h hk hal hf hb
      | some p => exact path_fnd h hk hal hf
  | succ k ih =>
    intro hk
    obtain ⟨ih1, ih2⟩ := ih (by exact pb6)
    unfold shar
    cases hal : W.al (k + 1) with
    | true => exact ⟨fun _ => .inl rfl, fun e => nomatch e⟩
    | false =>
      unfold hold
      cases hf : find3 (W.A (k + 1)).rows x with
      | some p => exact ⟨fun e => (nomatch e), fun _ => ⟨rfl, path_fnd h hk hal hf⟩⟩
      | none =>
        cases hb : (W.A (k + 1)).abv with
        | false => exact ⟨fun e => (nomatch e), fun _ => ⟨rfl, path_nof h hk hal hf hb⟩⟩
        | true =>
          refine ⟨fun e => .inr ?_, fun e => ⟨rfl, ?_⟩⟩
          · show gup W ((hold W.A x k).1 + 1) (k + 1) = none
            rw [gup, hb, if_pos rfl, Nat.add_sub_cancel]
            rcases ih1 e with e | e
            · rw [if_pos e]
            · rw [e]; split <;> rfl
          · obtain ⟨ha, r⟩ := ih2 e
            exact path_up h hk hal ha hf hb r
end
section
set_option linter.unusedSimpArgs false
set_option maxHeartbeats 4000000
set_option maxRecDepth 10000
theorem hold_le {A : Nat → OA} {x : Str} : ∀ k, (hold A x k).1 ≤ k + 1
  | 0 => by unfold hold; split <;> exact Nat.le_of_ble_eq_true rfl
  | k + 1 => by
    have := hold_le (A := A) (x := x) k
    unfold hold; split
    · split
      · show (hold A x k).1 + 1 ≤ _; exact pb5
      · show 1 ≤ _; omega
    · exact Nat.zero_le _
theorem FrE.newL {σ : H} {k : Nat} (hk : k ≤ 3) {c : Addr} {l : List V} (hc : σ.nxt ≤ c) : FrE σ (σ.newL k c l) :=
  ⟨Nat.le_succ_of_le hc, fun _ _ => rfl, fun k' hk' => newL_kl (by omega), fun _ _ => rfl, fun _ _ => rfl, fun a ha => newL_a (Nat.ne_of_lt (Nat.lt_of_lt_of_le ha hc))⟩
theorem FrE.newC {σ : H} {a : Addr} (ha : σ.nxt ≤ a) : FrE σ (σ.newC 3 a) :=
  ⟨Nat.le_succ_of_le ha, fun c hc => newC_cl (by exact pc5), fun _ _ => rfl, fun _ _ => rfl, fun b hb => newC_al (Nat.ne_of_lt (Nat.lt_of_lt_of_le hb ha)), fun _ _ => rfl⟩
theorem FrE.setF {σ0 σ : H} (F : FrE σ0 σ) {a : Addr} {f : Nat} {v : V} (ha : σ0.nxt ≤ a) : FrE σ0 (σ.setF 3 a f v) :=
  ⟨F.nxt, fun c hc => (setF_cl (by exact pc5)).trans (F.fld c hc), F.lst, F.dS, fun b hb => (setF_al (Nat.ne_of_lt (Nat.lt_of_lt_of_le hb ha))).trans (F.f3 b hb), F.l3⟩
theorem sp_learnt {σ : H} {W : Wd} (h : BI σ W) {k : Nat} (hk : k < W.m) {x : Str} {Q : V → H → Prop} (q1 : shar W x k = false → ∀ σ', BI σ' W → FrE σ σ' → Q .none σ')
    (q2 : shar W x k = true → ∀ σ' e, BI σ' W → FrE σ σ' → σ.nxt ≤ e.ad → EnOk σ' W.S x e → e.sa = W.sp k → Hm W k e.sa e.gs → (∀ p, find3 (W.A k).rows x = some p → e.gs = [] ∧ ∃ n, e.res = some (n, p.1)) → (∀ n f, e.res = some (n, f) → ∃ v, seen W.A x k = some (f, v)) → Q (enV e) σ') : F_learnt [stv (W.st k), .str x] σ Q := by
  have T := h.st k hk
  refine q_def rfl (q_asgC (e_call (by walk_at "ev") (sp_holder_of h hk x fun σ1 h1 F1 => k_asg2 ?_)))
  have f17 := (h1.st k hk).f17
  obtain ⟨p1, p2⟩ := path h (x := x) k hk
  have hle := hold_le (A := W.A) (x := x) k
  have hm4 := h.m4
  cases ha : W.al k with
  | true =>
    rw [ha] at f17
    repeat (walk_at "st")
    cases hs : shar W x k with
    | false => exact q1 hs σ1 h1 F1.toFrB.e
    | true => have := (p2 hs).1; rw [ha] at this; cases this
  | false =>
    rw [ha] at f17
    refine q_iffC (by walk_at "ev") (e_call (by walk_at "ev") (sp_guards_up h1 hk (by omega) (fun e c l hc => ?_) (fun gs e c hc => ?_)))
    · repeat (walk_at "st")
      cases hs : shar W x k with
      | false => exact q1 hs _ (h1.newL (by decide) hc) (F1.toFrB.e.trans (FrE.newL (by decide) hc))
      | true =>
        obtain ⟨-, gs, res, e', -⟩ := p2 hs
        rw [e] at e'; cases e'
    · cases hs : shar W x k with
      | false =>
        rcases p1 hs with z | z
        · rw [ha] at z; cases z
        · rw [e] at z; cases z
      | true =>
        obtain ⟨-, gs', res, e', hm, hch, hlen, hres⟩ := p2 hs
        rw [e] at e'; cases e'
        obtain ⟨i, D⟩ := h1.shd hk ha
        have f14 := D.f14
        have B2 : BI (σ1.newL 3 c (gs.map shv)) W := h1.newL (by decide) hc
        have F2 := F1.toFrB.e.trans (FrE.newL (k := 3) (l := gs.map shv) (by decide) hc)
        repeat (walk_at "st")
        refine q_setC (e_call (by walk_at "ev") (e_new fun en hen => q_def rfl ?_))
        have hen' : σ.nxt ≤ en := Nat.le_trans F1.nxt (Nat.le_trans hc (Nat.le_of_succ_le hen))
        repeat (walk_at "st")
        refine ⟨rfl, ?_⟩
        generalize hσ3 : (((((((σ1.newL 3 c (gs.map shv)).newC 3 en).setF 3 en 14 (shv (W.sp k))).setF 3 en 20 (.ref (.lst 3) c)).setF 3 en 21 (.int 0)).setF 3 en 22 .none).setF 3 en 4 (.int 0) |>.setF 3 en 7 .none) = σ3
        have B3 : BI σ3 W := by
          rw [← hσ3]
          exact ((((((B2.newC (by decide) hen).setF (by decide)).setF (by decide)).setF (by decide)).setF (by decide)).setF (by decide)).setF (by decide)
        have F3 : FrE σ σ3 := by
          rw [← hσ3]
          exact ((((((F2.trans (FrE.newC hen)).setF hen').setF hen').setF hen').setF hen').setF hen').setF hen'
        have r14 : σ3.fld 3 en 14 = some (shv (W.sp k)) := by
          rw [← hσ3]
          walk_at "ev"
        have r20 : σ3.fld 3 en 20 = some (.ref (.lst 3) c) := by
          rw [← hσ3]
          walk_at "ev"
        have r22 : σ3.fld 3 en 22 = some .none := by
          rw [← hσ3]
          walk_at "ev"
        have L3 : σ3.lst 3 c = gs.map shv := by
          rw [← hσ3]
          exact newL_at
        have N3 : σ3.nxt = en + 1 := by
          rw [← hσ3]
          exact rfl
        have hcn : c < en + 1 := Nat.lt_succ_of_lt hen
        rcases hres with ⟨r1, r2⟩ | ⟨l, r1, r2, r3, r4, r5, n, f, r6, r7⟩
        · subst r2
          rw [r1]
          repeat (walk_at "st")
          refine q2 hs σ3 ⟨en, W.sp k, gs, none, 0⟩ B3 F3 hen' ⟨r14, ⟨c, r20, by rw [N3]; exact hcn, L3⟩, fun n f e => (nomatch e), fun _ => r22, by rw [N3]; exact Nat.lt_succ_self _, hch, by show gs.length ≤ 4; omega⟩ rfl hm (fun p hp => ?_) fun n f e => (nomatch e)
          have := hold_seen (A := W.A) (x := x) k
          rw [r1] at this
          have this : seen W.A x k = none := this
          rw [seen_own hp] at this; cases this
        · subst r7
          obtain ⟨il, Dl⟩ := B3.shd r2 r3
          have g14 := Dl.f14
          have B4 : BI (σ3.setF 3 en 21 (.int (hold W.A x k).1)) W := B3.setF (by decide)
          have F4 : FrE σ (σ3.setF 3 en 21 (.int (hold W.A x k).1)) := F3.setF hen'
          rw [r1]
          repeat (walk_at "st")
          refine q_asgC (e_meth (by walk_at "ev") rfl (by walk_at "ev") (sp_place B4.si Dl.S x fun σ5 H5 F5 => ?_))
          have B5 := B4.read F5.r H5
          have f3 : ∀ f, σ5.fld 3 en f = (σ3.setF 3 en 21 (.int (hold W.A x k).1)).fld 3 en f := fun f => congrFun (congrFun (F5.fld 3 (by decide)) en) f
          have l3 : σ5.lst 3 c = gs.map shv := (F5.lst 3 c (fun e => nomatch e)).trans L3
          have n5 : en + 1 ≤ σ5.nxt := N3 ▸ F5.nxt
          rw [Dl.rows, r6]
          refine k_asgF (by walk_at "ev") (by walk_at "ev") ?_
          repeat (walk_at "st")
          refine q2 hs _ ⟨en, W.sp k, gs, some (n, f), 0⟩ ((B5.setF (by decide)).setF (by decide)) (((F4.trans F5.b.e).setF hen').setF hen') hen' ⟨?_, ⟨c, ?_, Nat.lt_of_lt_of_le hcn n5, l3⟩, fun n' f' e => ?_, fun e => (nomatch e), Nat.lt_of_lt_of_le (Nat.lt_succ_self _) n5, hch, by show gs.length ≤ 4; omega⟩ rfl hm (fun p hp => ?_) fun n' f' e => ?_
          · exact (setF_f (by decide)).trans ((setF_f (by decide)).trans ((f3 14).trans ((setF_f (by decide)).trans r14)))
          · exact (setF_f (by decide)).trans ((setF_f (by decide)).trans ((f3 20).trans ((setF_f (by decide)).trans r20)))
          · cases e
            exact ⟨(setF_f (by decide)).trans ((setF_f (by decide)).trans ((f3 21).trans (setF_at.trans (by rw [r5])))), (setF_f (by decide)).trans setF_at, setF_at⟩
          · have hs0 := hold_seen (A := W.A) (x := x) k
            have : (hold W.A x k) = (0, some k) := by
              cases k with
              | zero => unfold hold; rw [hp]; rfl
              | succ k => unfold hold; rw [hp]; rfl
            rw [this] at r1 r5
            cases r1
            refine ⟨List.eq_nil_of_length_eq_zero r5.symm, n, ?_⟩
            obtain ⟨j, v, -, -, hf⟩ := idx3_some r6
            rw [hp] at hf; cases hf; rfl
          · cases e
            obtain ⟨j, v, -, -, hf⟩ := idx3_some r6
            have hs0 := hold_seen (A := W.A) (x := x) k
            rw [r1] at hs0
            exact ⟨v, by rw [← hs0.2.1]; exact hf⟩
end
section
set_option linter.unusedSimpArgs false
set_option maxHeartbeats 4000000
set_option maxRecDepth 10000
structure SiOk (σ : H) (c : Nat) (s : Addr) (x : Str) (lim : Int) (es : List En) (lost : Bool) (hi mi : Int) : Prop where
  f3 : σ.fld c s 3 = some (.str x)
  f10 : σ.fld c s 10 = some (.int lim)
  f23 : ∃ E, σ.fld c s 23 = some (.ref (.lst 4) E) ∧ E < σ.nxt ∧ σ.lst 4 E = es.map enV
  f24 : σ.fld c s 24 = some (.bool lost)
  f25 : σ.fld c s 25 = some (.int hi)
  f26 : σ.fld c s 26 = some (.int mi)
  lt : s < σ.nxt
  len : es.length ≤ 900
  lim0 : 0 ≤ lim
theorem SiOk.mono {σ σ' : H} {c : Nat} {s : Addr} {x : Str} {lim : Int} {es : List En} {lost : Bool} {hi mi : Int} (h : SiOk σ c s x lim es lost hi mi) (hf : σ'.fld c s = σ.fld c s) (hn : σ.nxt ≤ σ'.nxt) (hl : ∀ a, a < σ.nxt → σ'.lst 4 a = σ.lst 4 a) : SiOk σ' c s x lim es lost hi mi := by
  obtain ⟨E, e1, e2, e3⟩ := h.f23
  exact ⟨by rw [hf]; exact h.f3, by rw [hf]; exact h.f10, ⟨E, by rw [hf]; exact e1, Nat.lt_of_lt_of_le e2 hn, by rw [hl E e2]; exact e3⟩, by rw [hf]; exact h.f24, by rw [hf]; exact h.f25, by rw [hf]; exact h.f26, Nat.lt_of_lt_of_le h.lt hn, h.len, h.lim0⟩
noncomputable abbrev efB : S1 := sCons (sIf (tVal (pMeth [(3, F_Entry_holds)] (pV 2) (eCons (pV 1) eNil))) (sCons (sAugF (pV 0) 25 (pK (.int 1))) (sCons (sRet (pV 2)) sNil)) sNil) sNil
theorem ef_loop {σ : H} {W : Wd} (h : BI σ W) {k : Nat} (hk : k < W.m) {c : Nat} {s E : Addr} {x : Str} {hi : Int} (f25 : σ.fld c s 25 = some (.int hi)) : ∀ (es pre : List En) (l2 : Option V) (Q : Fl → Ls → H → Prop), (∀ e ∈ es, EnOk σ W.S x e) → σ.lst 4 E = (pre ++ es).map enV →
    (∀ e ∈ es, Hm W k e.sa e.gs → ∀ ls, Q (.ret (enV e)) ls (σ.setF c s 25 (.int (hi + 1)))) → ((∀ e ∈ es, ¬ Hm W k e.sa e.gs) → ∀ l2, Q .next [some (.ref (.inst c) s), some (stv (W.st k)), l2] σ) →
    forL (aVar 2) efB (es.map enV) (.lst 4 E pre.length) [some (.ref (.inst c) s), some (stv (W.st k)), l2] σ Q := by
  intro es
  induction es with
  | nil => intro pre l2 Q he hl q1 q2; exact q2 (fun _ h => nomatch h) l2
  | cons e es ih =>
    intro pre l2 Q he hl q1 q2
    refine f_var (q_ifC (d_tval (e_meth (by walk_at "ev") rfl (by walk_at "ev") (sp_holds h hk (he e (.head _)) fun b hb => ?_))))
    cases b with
    | true => exact k_ift (q_cons (q_augF (by walk_at "ev") f25 Ev.con (f_ret (by walk_at "ev") (q1 e (.head _) (hb.mp rfl) _))))
    | false =>
      refine k_iff (q_nil (f_end ?_ trivial ?_))
      · show (σ.lst 4 E).drop (pre.length + 1) = _
        rw [hl, drop_mid]
      · have := ih (pre ++ [e]) (some (enV e)) Q (fun e' h' => he e' (.tail _ h')) (by rw [List.append_assoc]; exact hl) (fun e' h' => q1 e' (.tail _ h')) fun z => q2 fun e' h' => by
          cases h' with
          | head => exact fun y => nomatch hb.mpr y
          | tail _ h' => exact z e' h'
        rw [List.length_append] at this
        exact this
theorem sp_entry_for {σ : H} {W : Wd} (h : BI σ W) {k : Nat} (hk : k < W.m) {c : Nat} {s : Addr} {x : Str} {lim : Int} {es : List En} {lost : Bool} {hi mi : Int} (hs : SiOk σ c s x lim es lost hi mi) (he : ∀ e ∈ es, EnOk σ W.S x e) {Q : V → H → Prop}
    (q1 : ∀ e ∈ es, Hm W k e.sa e.gs → Q (enV e) (σ.setF c s 25 (.int (hi + 1)))) (q2 : (∀ e ∈ es, ¬ Hm W k e.sa e.gs) → Q .none (σ.setF c s 26 (.int (mi + 1)))) : F_Site_entry_for [.ref (.inst c) s, stv (W.st k)] σ Q := by
  obtain ⟨E, e1, e2, e3⟩ := hs.f23
  refine q_def rfl (q_forL (by walk_at "ev") ?_)
  rw [e3, List.drop_zero]
  exact ef_loop h hk hs.f25 es [] none _ he e3 (fun e h1 h2 ls => q1 e h1 h2) fun z l2 => q_augF (by walk_at "ev") hs.f26 Ev.con (q_retF Ev.con (q2 z))
noncomputable def numOf (S : SM) (a : Addr) : Int := match S a with | some i => i.num | none => 0
noncomputable def keptE (S : SM) (es : List En) (e : En) : List En := es.filter fun o => decide (numOf S o.sa ≠ numOf S e.sa)
noncomputable def learnE (S : SM) (es : List En) (lost : Bool) (lim : Int) (e : En) : List En × Bool :=
  if lost then (es, lost) else if lim ≤ ((keptE S es e).length : Int) then ([], true) else (keptE S es e ++ [e], false)
theorem learn_loop {σ : H} {W : Wd} (h : BI σ W) {x : Str} {E : Addr} {e : En} (he : EnOk σ W.S x e) : ∀ (es pre : List En) (acc : List V) (l1 : Option V) (Q : List V → H → Prop), (∀ e ∈ es, EnOk σ W.S x e) → σ.lst 4 E = (pre ++ es).map enV → acc.length + es.length ≤ 900 →
    Q (acc ++ (keptE W.S es e).map enV) σ → compL 1 (aVar 1) (tCmp fNe (pF (pF (pV 1) 14) 0) (pF (pF (pV 0) 14) 0)) (pV 1) (es.map enV) (.lst 4 E pre.length) [some (enV e), l1] acc σ Q := by
  intro es
  induction es with
  | nil => intro pre acc l1 Q ho hl hn q; rw [show acc ++ (keptE W.S [] e).map enV = acc from List.append_nil acc] at q; exact q
  | cons o es ih =>
    intro pre acc l1 Q ho hl hn q
    rw [List.length_cons] at hn
    have O := ho o (.head _)
    obtain ⟨i, hi⟩ := O.ch.sh
    obtain ⟨j, hj⟩ := he.ch.sh
    have n1 : numOf W.S o.sa = i.num := by unfold numOf; rw [hi]
    have n2 : numOf W.S e.sa = j.num := by unfold numOf; rw [hj]
    have adv : (IK.lst 4 E pre.length).adv.items σ = es.map enV := by
      show (σ.lst 4 E).drop (pre.length + 1) = _
      rw [hl, drop_mid]
    have f1 := O.f14
    have f2 := he.f14
    have f3 := (h.si.sh _ _ hi).f0
    have f4 := (h.si.sh _ _ hj).f0
    have ih := fun acc => ih (pre ++ [o]) acc (some (enV o)) Q (fun e' h' => ho e' (.tail _ h')) (by rw [List.append_assoc]; exact hl)
    rw [List.length_append] at ih
    unfold keptE at q
    by_cases z : i.num = j.num
    · refine cl_var0 rfl (by walk_at "ev") adv trivial (ih acc (by exact pb3) ?_)
      rw [List.filter_cons_of_neg (by rw [n1, n2]; exact fun y => of_decide_eq_true y z)] at q
      exact q
    · refine cl_var rfl (by walk_at "ev") (by walk_at "ev") (by exact pc9) adv trivial (ih (acc ++ [enV o]) (by rw [List.length_append, List.length_singleton]; exact pb2) ?_)
      rw [List.filter_cons_of_pos (by rw [n1, n2]; exact decide_eq_true z)] at q
      rw [List.append_assoc]; exact q
theorem kept_len {S : SM} {es : List En} {e : En} : (keptE S es e).length ≤ es.length := List.length_filter_le _ _
structure FrS (σ σ' : H) (c : Nat) (s : Addr) : Prop where
  nxt : σ.nxt ≤ σ'.nxt
  fld : ∀ c' a, ¬ (c' = c ∧ a = s) → σ'.fld c' a = σ.fld c' a
  oth : ∀ f, f ≠ 23 → f ≠ 24 → σ'.fld c s f = σ.fld c s f
  lst : ∀ k a, (k = 4 ∨ k = 13 → a < σ.nxt) → σ'.lst k a = σ.lst k a
  dS : σ'.dS = σ.dS
  dI : σ'.dI = σ.dI
  dT : σ'.dT = σ.dT
theorem FrS.bi {σ σ' : H} {c : Nat} {s : Addr} (F : FrS σ σ' c s) (hc : 4 ≤ c) {W : Wd} (h : BI σ W) : BI σ' W :=
  h.eqv (fun c' hc' => by funext a; exact F.fld c' a fun z => by omega) (by funext a; exact F.lst 1 a (by omega)) (by rw [F.dS]) (by rw [F.dS]) (by rw [F.dI]) (by rw [F.dT]) F.nxt
theorem FrS.en {σ σ' : H} {c : Nat} {s : Addr} (F : FrS σ σ' c s) (hc : 4 ≤ c) {S : SM} {x : Str} {e : En} (h : EnOk σ S x e) : EnOk σ' S x e :=
  h.mono (.refl _) F.nxt (fun a _ => F.fld 3 a fun z => by omega) fun a _ => F.lst 3 a (by omega)
theorem FrS.setF {σ σ' : H} {c : Nat} {s : Addr} (F : FrS σ σ' c s) {f : Nat} {v : V} (hf : f = 24 ∨ f = 23) : FrS σ (σ'.setF c s f v) c s :=
  ⟨F.nxt, fun c' a' hz => (funext fun _ => if_neg fun z => hz ⟨z.1, z.2.1⟩ : (σ'.setF c s f v).fld c' a' = σ'.fld c' a').trans (F.fld c' a' hz), fun f' h1 h2 => (setF_f fun e => hf.elim (fun q => h2 (e.trans q)) fun q => h1 (e.trans q)).trans (F.oth f' h1 h2), F.lst, F.dS, F.dI, F.dT⟩
theorem FrS.newL {σ σ' : H} {c : Nat} {s : Addr} (F : FrS σ σ' c s) {k : Nat} {a : Addr} {l : List V} (ha : σ.nxt ≤ a) (hn : k = 4 ∨ k = 13 := by decide) : FrS σ (σ'.newL k a l) c s :=
  ⟨Nat.le_succ_of_le ha, F.fld, F.oth, fun k' b hk => (newL_ka fun z => Nat.lt_irrefl _ (Nat.lt_of_lt_of_le (z.2 ▸ hk (z.1.symm ▸ hn)) ha)).trans (F.lst k' b hk), F.dS, F.dI, F.dT⟩
theorem FrS.si {σ σ' : H} {c : Nat} {s : Addr} (F : FrS σ σ' c s) {x : Str} {lim : Int} {es es' : List En} {lost lost' : Bool} {hi mi : Int} (hs : SiOk σ c s x lim es lost hi mi) {E : Addr} (f23 : σ'.fld c s 23 = some (.ref (.lst 4) E)) (hE : E < σ'.nxt) (hl : σ'.lst 4 E = es'.map enV) (f24 : σ'.fld c s 24 = some (.bool lost')) (hn : es'.length ≤ 900) : SiOk σ' c s x lim es' lost' hi mi :=
  ⟨(F.oth 3 (by decide) (by decide)).trans hs.f3, (F.oth 10 (by decide) (by decide)).trans hs.f10, ⟨E, f23, hE, hl⟩, f24, (F.oth 25 (by decide) (by decide)).trans hs.f25, (F.oth 26 (by decide) (by decide)).trans hs.f26, Nat.lt_of_lt_of_le hs.lt F.nxt, hn, hs.lim0⟩
theorem sp_learn {σ : H} {W : Wd} (h : BI σ W) {c : Nat} (hc : 4 ≤ c) {s : Addr} {x : Str} {lim : Int} {es : List En} {lost : Bool} {hi mi : Int} (hs : SiOk σ c s x lim es lost hi mi) (hl3 : lim ≤ 3) (hn : (es.length : Int) ≤ lim) (he : ∀ e ∈ es, EnOk σ W.S x e) {e : En} (hee : EnOk σ W.S x e) {Q : V → H → Prop}
    (q : ∀ σ', FrS σ σ' c s → SiOk σ' c s x lim (learnE W.S es lost lim e).1 (learnE W.S es lost lim e).2 hi mi → Q .none σ') : F_Site_learn [.ref (.inst c) s, enV e] σ Q := by
  obtain ⟨E, e1, e2, e3⟩ := hs.f23
  have f24 := hs.f24
  refine q_def rfl ?_
  cases lost with
  | true =>
    repeat (walk_at "st")
    exact q σ ⟨Nat.le_refl _, fun _ _ _ => rfl, fun _ _ _ => rfl, fun _ _ _ => rfl, rfl, rfl, rfl⟩ hs
  | false =>
    repeat (walk_at "st")
    refine q_setC (e_compL (by walk_at "ev") (fun i hi => by cases List.mem_singleton.mp hi; exact ⟨_, rfl⟩) fun a ha => ?_)
    rw [e3, List.drop_zero]
    have B1 : BI (σ.res a) W := h.eqv (fun _ _ => rfl) rfl rfl rfl rfl rfl (Nat.le_succ_of_le ha)
    have ee1 : ∀ e, EnOk σ W.S x e → EnOk (σ.res a) W.S x e := fun e he => he.mono (.refl _) (Nat.le_succ_of_le ha) (fun _ _ => rfl) fun _ _ => rfl
    refine learn_loop B1 (ee1 e hee) (E := E) es [] [] none _ (fun e h' => ee1 e (he e h')) e3 (by rw [List.length_nil]; exact pd7) ⟨Nat.lt_succ_self _, ?_⟩
    rw [List.nil_append]
    have hkl := kept_len (S := W.S) (es := es) (e := e)
    have g10 : ((σ.res a).setL 4 a ((keptE W.S es e).map enV)).fld c s 10 = some (.int lim) := hs.f10
    have gl : (((σ.res a).setL 4 a ((keptE W.S es e).map enV)).lst 4 a).length = (keptE W.S es e).length := by rw [setL_at, List.length_map]
    have S0 : FrS σ ((σ.res a).setL 4 a ((keptE W.S es e).map enV)) c s :=
      ⟨Nat.le_succ_of_le ha, fun c' a' hz => rfl, fun f h1 h2 => rfl, fun k b hk => setL_ka fun z => Nat.lt_irrefl _ (Nat.lt_of_lt_of_le (z.2 ▸ hk (.inl z.1)) ha), rfl, rfl, rfl⟩
    by_cases z : lim ≤ ((keptE W.S es e).length : Int)
    · refine q_putF (Ev.cast (Ev.cge (Ev.len (by walk_at "ev") (by rw [gl]; omega)) (by walk_at "ev")) (w := .bool true) (by rw [gl, decide_eq_true z])) (by walk_at "ev") (q_putFC (e_ift (by walk_at "ev") (e_list El.nil (Nat.zero_le _) fun b hb => k_put (by walk_at "ev") (q_endF ?_))))
      have hb' : σ.nxt ≤ b := Nat.le_trans ha (Nat.le_of_succ_le hb)
      have F := ((S0.setF (f := 24) (v := .bool true) (.inl rfl)).newL (k := 4) (l := []) hb').setF (f := 23) (v := .ref (.lst 4) b) (.inr rfl)
      have e : learnE W.S es false lim e = ([], true) := by unfold learnE; rw [if_neg (fun z => nomatch z), if_pos z]
      refine q _ F ?_
      rw [e]
      exact F.si hs setF_at (Nat.lt_succ_self _) newL_at ((setF_f (by decide)).trans (setF_at : (((σ.res a).setL 4 a ((keptE W.S es _).map enV)).setF c s 24 (.bool true)).fld c s 24 = _)) (Nat.zero_le _)
    · refine q_putF (Ev.cast (Ev.cge (Ev.len (by walk_at "ev") (by rw [gl]; omega)) (by walk_at "ev")) (w := .bool false) (by rw [gl, decide_eq_false z])) (by walk_at "ev") (q_putFC (e_iff (by walk_at "ev") (e_bin (e_val (by walk_at "ev") (e_list (by walk_at "ev") (Nat.le_of_ble_eq_true rfl) fun b hb => k_addL ?_ fun d hd => k_put (by walk_at "ev") (q_endF ?_))))))
      · rw [newL_at, show ((((σ.res a).setL 4 a ((keptE W.S es e).map enV)).setF c s 24 (.bool false)).newL 13 b [enV e]).lst 4 a = (keptE W.S es e).map enV from (newL_k (by decide)).trans setL_at, List.length_map, List.length_singleton]
        omega
      · have hb' : σ.nxt ≤ b := Nat.le_trans ha (Nat.le_of_succ_le hb)
        have hd' : σ.nxt ≤ d := Nat.le_trans hb' (Nat.le_of_succ_le hd)
        have F := (((S0.setF (f := 24) (v := .bool false) (.inl rfl)).newL (k := 13) (l := [enV e]) hb').newL (k := 4) (l := (keptE W.S es e).map enV ++ [enV e]) hd').setF (f := 23) (v := .ref (.lst 4) d) (.inr rfl)
        have ee : learnE W.S es false lim e = (keptE W.S es e ++ [e], false) := by unfold learnE; rw [if_neg (fun z => nomatch z), if_neg z]
        have el : ((((σ.res a).setL 4 a ((keptE W.S es e).map enV)).setF c s 24 (.bool false)).newL 13 b [enV e]).lst 4 a = (keptE W.S es e).map enV := (newL_k (by decide)).trans setL_at
        rw [el, newL_at]
        refine q _ F ?_
        rw [ee]
        exact F.si hs setF_at (Nat.lt_succ_self _) (newL_at.trans (List.map_append (f := enV) (l₁ := keptE W.S es e) (l₂ := [e])).symm) ((setF_f (by decide)).trans (setF_at : (((σ.res a).setL 4 a ((keptE W.S es e).map enV)).setF c s 24 (.bool false)).fld c s 24 = _)) (by rw [List.length_append, List.length_singleton]; omega)
end
section
set_option linter.unusedSimpArgs false
set_option maxHeartbeats 4000000
set_option maxRecDepth 10000
theorem hm_seen {σ : H} {W : Wd} (h : BI σ W) {x : Str} {res : Option (Nat × Int)} : ∀ (gs : List Addr) (k : Nat) (a : Addr), k < W.m → Hm W k a gs → Ch W.S x a gs res →
    (res = none → seen W.A x k = none) ∧ ∀ n f, res = some (n, f) → ∃ v, seen W.A x k = some (f, v) ∧ gs.length ≤ k ∧ W.al (k - gs.length) = false ∧ ((W.A (k - gs.length)).rows.map (·.2.2))[n]? = some v := by
  intro gs
  induction gs with
  | nil =>
    intro k a hk hm hc
    obtain ⟨hal, hsp⟩ := hm
    obtain ⟨i, hi, hx, hp⟩ := hc
    obtain ⟨j, D⟩ := h.shd hk hal
    obtain rfl : j = i := by have := D.S; rw [hsp, hi] at this; cases this; rfl
    rw [D.rows] at hx
    refine ⟨fun e => ?_, fun n f e => ?_⟩
    · rw [e] at hx
      have hf := idx3_none.mp hx
      have hb : (W.A k).abv = false := by
        have := D.pro
        rw [hp e] at this
        unfold Wd.pro at this
        cases hb : (W.A k).abv with
        | false => rfl
        | true => rw [hb] at this; cases this
      cases k with
      | zero => exact hf
      | succ k => unfold seen; rw [hf, hb]; rfl
    · rw [e] at hx
      obtain ⟨j', v, hn, hj, hf⟩ := idx3_some hx
      rw [Nat.zero_add] at hn; subst hn
      exact ⟨v, seen_own hf, Nat.zero_le _, hal, by rw [List.length_nil, Nat.sub_zero, List.getElem?_map, hj]; rfl⟩
  | cons g gs ih =>
    intro k a hk hm hc
    obtain ⟨hal, hsp, hb, hm⟩ := hm
    obtain ⟨i, hi, hx, hp, hc⟩ := hc
    obtain ⟨j, D⟩ := h.shd hk hal
    obtain rfl : j = i := by have := D.S; rw [hsp, hi] at this; cases this; rfl
    rw [D.rows] at hx
    have hf := idx3_none.mp hx
    have h0 := h.abv k hk hb
    obtain ⟨k', rfl⟩ : ∃ k', k = k' + 1 := ⟨k - 1, by exact pb13⟩
    rw [Nat.add_sub_cancel] at hm
    obtain ⟨r1, r2⟩ := ih k' g (by exact pb6) hm hc
    have hs : seen W.A x (k' + 1) = seen W.A x k' := by rw [seen, hf, hb]; rfl
    refine ⟨fun e => hs.trans (r1 e), fun n f e => ?_⟩
    obtain ⟨v, s1, s2, s3, s4⟩ := r2 n f e
    have e1 : k' + 1 - (g :: gs).length = k' - gs.length := by rw [List.length_cons]; omega
    rw [e1]
    exact ⟨v, hs.trans s1, by rw [List.length_cons]; exact pb5, s3, s4⟩
structure FrT (σ σ' : H) (c : Nat) (s : Addr) : Prop where
  nxt : σ.nxt ≤ σ'.nxt
  fld : ∀ c' a, 4 ≤ c' → ¬ (c' = c ∧ a = s) → σ'.fld c' a = σ.fld c' a
  f3 : ∀ a, a < σ.nxt → σ'.fld 3 a = σ.fld 3 a
  l3 : ∀ a, a < σ.nxt → σ'.lst 3 a = σ.lst 3 a
  l4 : ∀ a, a < σ.nxt → σ'.lst 4 a = σ.lst 4 a
  lst : ∀ k, 5 ≤ k → k ≠ 13 → σ'.lst k = σ.lst k
  dS : ∀ k, 2 ≤ k → σ'.dS k = σ.dS k
theorem FrT.trans {a b d : H} {c : Nat} {s : Addr} (x : FrT a b c s) (y : FrT b d c s) : FrT a d c s :=
  ⟨Nat.le_trans x.nxt y.nxt, fun c h1 h2 h3 => (y.fld c h1 h2 h3).trans (x.fld c h1 h2 h3), fun p h => (y.f3 p (Nat.lt_of_lt_of_le h x.nxt)).trans (x.f3 p h), fun p h => (y.l3 p (Nat.lt_of_lt_of_le h x.nxt)).trans (x.l3 p h), fun p h => (y.l4 p (Nat.lt_of_lt_of_le h x.nxt)).trans (x.l4 p h), fun k h1 h2 => (y.lst k h1 h2).trans (x.lst k h1 h2), fun k h => (y.dS k h).trans (x.dS k h)⟩
theorem FrE.t {σ σ' : H} (h : FrE σ σ') (c : Nat) (s : Addr) : FrT σ σ' c s := ⟨h.nxt, fun c' a hc _ => by rw [h.fld c' hc], h.f3, h.l3, fun a _ => by rw [h.lst 4 (by decide)], fun k hk _ => h.lst k (by exact pc7), h.dS⟩
theorem FrS.t {σ σ' : H} {c : Nat} {s : Addr} (h : FrS σ σ' c s) (hc : 4 ≤ c) : FrT σ σ' c s :=
  ⟨h.nxt, fun c' a _ hz => h.fld c' a hz, fun a _ => h.fld 3 a (by omega), fun a _ => by rw [h.lst 3 a (by omega)], fun a ha => h.lst 4 a fun _ => ha, fun k hk hk' => by funext a; exact h.lst k a (by omega), fun k _ => by rw [h.dS]⟩
theorem FrT.setF {σ : H} {c : Nat} (hc : 4 ≤ c) {s : Addr} {f : Nat} {v : V} : FrT σ (σ.setF c s f v) c s :=
  ⟨Nat.le_refl _, fun c' a _ hz => funext fun _ => if_neg fun z => hz ⟨z.1, z.2.1⟩, fun a _ => congrFun (setF_cl (by exact pc6)) a, fun _ _ => rfl, fun _ _ => rfl, fun _ _ _ => rfl, fun _ _ => rfl⟩
theorem SiOk.cnt {σ : H} {c : Nat} {s : Addr} {x : Str} {lim : Int} {es : List En} {lost : Bool} {hi mi : Int} (h : SiOk σ c s x lim es lost hi mi) : SiOk (σ.setF c s 25 (.int (hi + 1))) c s x lim es lost (hi + 1) mi ∧ SiOk (σ.setF c s 26 (.int (mi + 1))) c s x lim es lost hi (mi + 1) :=
  have g : ∀ {n : Int}, ∃ E, (σ.setF c s 25 (.int n)).fld c s 23 = some (.ref (.lst 4) E) ∧ E < σ.nxt ∧ σ.lst 4 E = es.map enV := fun {n} => by rw [setF_f (by decide)]; exact h.f23
  have g' : ∀ {n : Int}, ∃ E, (σ.setF c s 26 (.int n)).fld c s 23 = some (.ref (.lst 4) E) ∧ E < σ.nxt ∧ σ.lst 4 E = es.map enV := fun {n} => by rw [setF_f (by decide)]; exact h.f23
  ⟨⟨(setF_f (by decide)).trans h.f3, (setF_f (by decide)).trans h.f10, g, (setF_f (by decide)).trans h.f24, setF_at, (setF_f (by decide)).trans h.f26, h.lt, h.len, h.lim0⟩,
   ⟨(setF_f (by decide)).trans h.f3, (setF_f (by decide)).trans h.f10, g', (setF_f (by decide)).trans h.f24, (setF_f (by decide)).trans h.f25, setF_at, h.lt, h.len, h.lim0⟩⟩
theorem EnOk.setF {σ : H} {S : SM} {x : Str} {e : En} (h : EnOk σ S x e) {c : Nat} (hc : 4 ≤ c) {s : Addr} {f : Nat} {v : V} : EnOk (σ.setF c s f v) S x e :=
  h.mono (.refl _) (Nat.le_refl _) (fun a _ => congrFun (setF_cl (by exact pc6)) a) fun _ _ => rfl
theorem FrE.si {σ σ' : H} (F : FrE σ σ') {c : Nat} (hc : 4 ≤ c) {s : Addr} {x : Str} {lim : Int} {es : List En} {lost : Bool} {hi mi : Int} (h : SiOk σ c s x lim es lost hi mi) : SiOk σ' c s x lim es lost hi mi :=
  h.mono (by rw [F.fld c hc]) F.nxt fun a _ => by rw [F.lst 4 (by decide)]
theorem FrE.en {σ σ' : H} (F : FrE σ σ') {S S' : SM} (E : Ext S S') {x : Str} {e : En} (h : EnOk σ S x e) : EnOk σ' S' x e := h.mono E F.nxt F.f3 F.l3
structure SiE (σ : H) (S : SM) (c : Nat) (s : Addr) (x : Str) (lim : Int) (es : List En) (lost : Bool) (hi mi : Int) : Prop where
  ok : SiOk σ c s x lim es lost hi mi
  en : ∀ e ∈ es, EnOk σ S x e
  len : (es.length : Int) ≤ lim
  l3 : lim ≤ 3
  lo : lost = true → es = []
theorem learnE_ok {σ : H} {S : SM} {c : Nat} {s : Addr} {x : Str} {lim : Int} {es : List En} {lost : Bool} {hi mi : Int} (h : SiE σ S c s x lim es lost hi mi) {e : En} (he : EnOk σ S x e) :
    (∀ o ∈ (learnE S es lost lim e).1, EnOk σ S x o) ∧ ((learnE S es lost lim e).1.length : Int) ≤ lim ∧ ((learnE S es lost lim e).2 = true → (learnE S es lost lim e).1 = []) := by
  have hk := kept_len (S := S) (es := es) (e := e)
  have h0 := h.ok.lim0
  unfold learnE
  cases lost with
  | true => exact ⟨h.en, h.len, fun _ => h.lo rfl⟩
  | false =>
    rw [if_neg (fun z => nomatch z)]
    split
    · exact ⟨fun _ h => (nomatch h), h0, fun _ => rfl⟩
    · refine ⟨fun o ho => ?_, ?_, fun e => nomatch e⟩
      · rcases List.mem_append.mp ho with ho | ho
        · exact h.en o (List.mem_filter.mp ho).1
        · rw [List.mem_singleton.mp ho]; exact he
      · rw [List.length_append, List.length_singleton]; omega
theorem sp_read {σ : H} {W : Wd} (h : BI σ W) {k : Nat} (hk : k < W.m) {s : Addr} {x : Str} {lim : Int} {es : List En} {lost : Bool} {hi mi : Int} (hs : SiE σ W.S 4 s x lim es lost hi mi) {Q : V → H → Prop}
    (q1 : ∀ σ', (∃ e ∈ es, Hm W k e.sa e.gs) → BI σ' W → FrT σ σ' 4 s → SiE σ' W.S 4 s x lim es lost (hi + 1) mi → Q (fvV (seen W.A x k)) σ')
    (q2 : ∀ σ' es' lost', (∀ e ∈ es, ¬ Hm W k e.sa e.gs) → BI σ' W → FrT σ σ' 4 s → SiE σ' W.S 4 s x lim es' lost' hi (mi + 1) → (shar W x k = false → es' = es ∧ lost' = lost) →
      (shar W x k = true → ∃ e, (es', lost') = learnE W.S es lost lim e ∧ e.sa = W.sp k ∧ Hm W k e.sa e.gs) → Q (fvV (seen W.A x k)) σ') : F_ReadSite_read [.ref (.inst 4) s, stv (W.st k)] σ Q := by
  refine q_def rfl (q_setC (e_meth (by walk_at "ev") rfl (by walk_at "ev") (sp_entry_for h hk hs.ok hs.en (fun e he hm => ?_) (fun hm => ?_))))
  · have q1 := q1 _ ⟨e, he, hm⟩ (h.setF (by decide)) (FrT.setF (by decide)) ⟨hs.ok.cnt.1, fun e he => (hs.en e he).setF (by decide), hs.len, hs.l3, hs.lo⟩
    have E := hs.en e he
    have E' : EnOk (σ.setF 4 s 25 (.int (hi + 1))) W.S x e := E.setF (by decide)
    obtain ⟨r1, r2⟩ := hm_seen h e.gs k e.sa hk hm E.ch
    cases hr : e.res with
    | none =>
      rw [r1 hr] at q1
      have e22 := E'.none' hr
      repeat (walk_at "st")
      exact q1
    | some p =>
      obtain ⟨n, f⟩ := p
      obtain ⟨v, s1, s2, s3, s4⟩ := r2 n f hr
      obtain ⟨-, e22, e4⟩ := E'.some' n f hr
      rw [s1] at q1
      have B' : BI (σ.setF 4 s 25 (.int (hi + 1))) W := h.setF (by decide)
      have hl : k - e.gs.length < W.m := by exact pb1
      obtain ⟨-, -, ⟨sl, f15, hsl⟩, -⟩ := (B'.st _ hl).shared s3
      have hlen := (B'.st _ hl).good.len
      have hn := (List.getElem?_eq_some_iff.mp s4).1
      rw [List.length_map] at hn
      repeat (walk_at "st")
      exact q_retFC (e_tup (el_consV (by walk_at "ev") (el_cons (e_sub (e_fld (e_meth (by walk_at "ev") rfl (by walk_at "ev") (sp_holder B' hk E' hr hm (k_fld f15 (k_subL (by walk_at "ev") ⟨by exact pa1, by exact pd3⟩ (by rw [hsl]; exact s4) q1)))))))))
  · have B1 : BI (σ.setF 4 s 26 (.int (mi + 1))) W := h.setF (by decide)
    have S1 := hs.ok.cnt.2
    have f3 := S1.f3
    have E1 : ∀ e ∈ es, EnOk (σ.setF 4 s 26 (.int (mi + 1))) W.S x e := fun e he => (hs.en e he).setF (by decide)
    have F1 : FrT σ (σ.setF 4 s 26 (.int (mi + 1))) 4 s := FrT.setF (by decide)
    repeat (walk_at "st")
    refine q_expr (e_methC (by walk_at "ev") rfl (el_cons (e_call (by walk_at "ev") (sp_learnt B1 hk (fun sh σ2 B2 F2 => ?_) (fun sh σ2 e B2 F2 hen he hsa hme _ _ => ?_)))))
    · have S2 := F2.si (c := 4) (by decide) S1
      have g3 := S2.f3
      have L : ∀ Q' : V → H → Prop, Q' .none σ2 → F_Site_learn [.ref (.inst 4) s, .none] σ2 Q' := fun Q' q => by
        refine q_def rfl ?_
        repeat (walk_at "st")
        exact q
      refine el_val El.nil (e_cal (L _ (q_retFC (e_call (by walk_at "ev") (sp_look B2 hk x fun σ3 B3 F3 => ?_)))))
      have F3' := F3.toFrB.e
      exact q2 σ3 es lost hm B3 ((F1.trans (F2.t _ _)).trans (F3'.t _ _)) ⟨F3'.si (by decide) S2, fun e he => F3'.en (.refl _) (F2.en (.refl _) (E1 e he)), hs.len, hs.l3, hs.lo⟩ (fun _ => ⟨rfl, rfl⟩) (fun e => by rw [sh] at e; cases e)
    · have S2 := F2.si (c := 4) (by decide) S1
      have E2 : ∀ e ∈ es, EnOk σ2 W.S x e := fun e he => F2.en (.refl _) (E1 e he)
      have SE2 : SiE σ2 W.S 4 s x lim es lost hi (mi + 1) := ⟨S2, E2, hs.len, hs.l3, hs.lo⟩
      refine el_val El.nil (e_cal (sp_learn B2 (by decide) S2 hs.l3 hs.len E2 he fun σ3 F3 S3 => ?_))
      have g3 := S3.f3
      have B3 := F3.bi (by decide) B2
      refine q_retFC (e_call (by walk_at "ev") (sp_look B3 hk x fun σ4 B4 F4 => ?_))
      have F4' := F4.toFrB.e
      obtain ⟨k1, k2, k3⟩ := learnE_ok SE2 he
      exact q2 σ4 _ _ hm B4 (((F1.trans (F2.t _ _)).trans (F3.t (by decide))).trans (F4'.t _ _)) ⟨F4'.si (by decide) S3, fun o ho => F4'.en (.refl _) (F3.en (by decide) (k1 o ho)), k2, hs.l3, k3⟩ (fun e => by rw [sh] at e; cases e) fun _ => ⟨e, rfl, hsa, hme⟩
end
section
set_option linter.unusedSimpArgs false
set_option maxHeartbeats 4000000
set_option maxRecDepth 10000
structure EnW (σ : H) (S : SM) (x : Str) (e : En) : Prop where
  f7 : σ.fld 3 e.ad 7 = some (shv e.lt)
  w : ∃ i j, S e.sa = some i ∧ S e.lt = some j ∧ ((e.gs = [] ∧ e.lt = e.sa ∧ ∃ n f, e.res = some (n, f) ∧ f < 8 ∧ f % 2 = 1) ∨
    (idxR 0 i.rows x = none ∧ i.op = true ∧ j.rows = i.rows ++ [(x, 7)] ∧ j.pro = i.pro ∧ j.op = true ∧ ∀ n f, e.res = some (n, f) → f < 8 ∧ f % 2 = 1))
theorem EnW.mono {σ σ' : H} {S S' : SM} {x : Str} {e : En} (h : EnW σ S x e) (E : Ext S S') (hf : σ'.fld 3 e.ad = σ.fld 3 e.ad) : EnW σ' S' x e := by
  obtain ⟨i, j, h1, h2, r⟩ := h.w
  exact ⟨by rw [hf]; exact h.f7, i, j, E _ _ h1, E _ _ h2, r⟩
theorem wcode_own {A : Nat → OA} {x : Str} {k : Nat} {f : Int} {v : V} (h : find3 (A k).rows x = some (f, v)) (h8 : f < 8) (h2 : f % 2 = 1) : wcode A x k = 1 ∧ wval A x k = .none ∧ wflag A x k = f := by
  have e8 : ¬ 8 ≤ f := by omega
  have e2 : ¬ f % 2 = 0 := by omega
  refine ⟨?_, wval_none fun f' v' e => ?_, ?_⟩
  · unfold wcode; rw [h]
    show (if 8 ≤ f then (2 : Int) else if f % 2 = 0 then 0 else 1) = 1
    rw [if_neg e8, if_neg e2]
  · rw [seen_own h] at e; cases e; exact e8
  · unfold wflag; rw [h]
theorem wcode_new {A : Nat → OA} {x : Str} {k : Nat} (h : find3 (A k).rows x = none) (ho : (A k).op = true) (hs : ∀ f v, seen A x k = some (f, v) → f < 8 ∧ f % 2 = 1) : wcode A x k = 1 ∧ wval A x k = .none ∧ wflag A x k = 7 := by
  refine ⟨?_, wval_none fun f v e => by have := (hs f v e).1; omega, ?_⟩
  · unfold wcode comes; rw [h]
    cases hh : seen A x k with
    | none => show (if (A k).op = true then (1 : Int) else 0) = 1; rw [if_pos ho]
    | some p =>
      obtain ⟨f, v⟩ := p
      obtain ⟨a, b⟩ := hs f v hh
      show (if 8 ≤ f then (2 : Int) else if f % 2 = 0 then 0 else if (A k).op = true then 1 else 0) = 1
      rw [if_neg (by omega), if_neg (by omega), if_pos ho]
  · unfold wflag; rw [h]
theorem hit_write {σ : H} {W : Wd} (h : BI σ W) {k : Nat} (hk : k < W.m) {x : Str} (hx : x ∈ abc) {e : En} (he : EnOk σ W.S x e) (hw : EnW σ W.S x e) (hm : Hm W k e.sa e.gs) (n : Int) :
    wcode W.A x k = 1 ∧ wval W.A x k = .none ∧ ∃ i sl, W.S (W.sp k) = some i ∧ W.al k = false ∧ e.sa = W.sp k ∧ σ.fld 2 (W.st k) 15 = some (.ref (.lst 1) sl) ∧ σ.lst 1 sl = (W.A k).rows.map (·.2.2) ∧ (W.A k).rows.length ≤ 3 ∧
      ((e.lt = e.sa ∧ ∃ m f, e.res = some (m, f) ∧ m < (W.A k).rows.length ∧ BI (σ.setL 1 sl (((W.A k).rows.map (·.2.2)).set m (.int n))) (W.upd k (wrow W.A x k (.int n)) false (W.sp k) W.S)) ∨
       (e.lt ≠ e.sa ∧ BI ((σ.setF 2 (W.st k) 14 (shv e.lt)).setL 1 sl ((W.A k).rows.map (·.2.2) ++ [.int n])) (W.upd k (wrow W.A x k (.int n)) false e.lt W.S))) := by
  obtain ⟨hal, hsp⟩ := hm.hd
  have T := h.st k hk
  obtain ⟨f14, ⟨i, hi, ir, io, ip⟩, ⟨sl, f15, hs⟩, htb⟩ := T.shared hal
  obtain ⟨i', j, h1, h2, r⟩ := hw.w
  obtain rfl : i' = i := by rw [← hsp, hi] at h1; cases h1; rfl
  obtain ⟨r1, r2⟩ := hm_seen h e.gs k e.sa hk hm he.ch
  rcases r with ⟨g0, l0, m, f, hr, f8, f2⟩ | ⟨x0, o0, jr, jp, jo, hf⟩
  · have hc := he.ch
    rw [g0] at hc
    obtain ⟨i2, h3, hx2, -⟩ := hc
    obtain rfl : i' = i2 := by rw [h1] at h3; cases h3; rfl
    rw [hr, ir] at hx2
    obtain ⟨m', v, hm', hj, hfn⟩ := idx3_some hx2
    rw [Nat.zero_add] at hm'; subst hm'
    obtain ⟨c1, c2, c3⟩ := wcode_own hfn f8 f2
    have hput : putR (W.A k).rows x f (.int n) = (W.A k).rows.set m (x, f, .int n) := putR_set (n := 0) (f0 := f) (by rw [Nat.zero_add]; exact hx2)
    have hml := (List.getElem?_eq_some_iff.mp hj).1
    have hwr : wrow W.A x k (.int n) = (W.A k).wr (putR (W.A k).rows x f (.int n)) := by unfold wrow; rw [if_pos c1, c3]
    obtain ⟨-, g1, g2, -⟩ := T.good.found hfn
    have hG : GR3 (putR (W.A k).rows x f (.int n)) := T.good.put hx g1 g2 ⟨rfl, fun z => by omega⟩
    refine ⟨c1, c2, i', sl, hi, hal, hsp.symm, f15, hs, T.good.len, .inl ⟨l0, m, f, hr, hml, ?_⟩⟩
    rw [hwr]
    refine h.setSh (o := (W.A k).wr (putR (W.A k).rows x f (.int n))) hk hal f15 (h.si.eqv rfl rfl (fun _ => rfl) rfl rfl rfl (Nat.le_refl _)) (.refl _) hi ?_ io ?_ hG (h.abv k hk) (Nat.le_refl _) (fun _ _ _ => rfl) (fun _ _ => rfl) f14 rfl (fun s hs' => setL_a hs') ?_
    · show i'.rows = (putR (W.A k).rows x f (.int n)).map kf
      rw [hput, List.map_set, ir]
      refine List.ext_getElem? fun j => ?_
      rw [List.getElem?_set]
      split
      · rename_i e; subst e
        rw [List.getElem?_map, hj]; simp [hml, kf]
      · rfl
    · rw [ip, upd_pro_wr]
    · refine setL_at.trans ?_
      show _ = (putR (W.A k).rows x f (.int n)).map (·.2.2)
      rw [hput, List.map_set]
  · have hfn : find3 (W.A k).rows x = none := by rw [ir] at x0; exact idx3_none.mp x0
    obtain ⟨c1, c2, c3⟩ := wcode_new (A := W.A) (x := x) (k := k) hfn (io ▸ o0) (fun f v hv => by
      cases hr : e.res with
      | none => rw [r1 hr] at hv; cases hv
      | some p =>
        obtain ⟨m, f'⟩ := p
        obtain ⟨v', s1, -⟩ := r2 m f' hr
        rw [s1] at hv; cases hv
        exact hf m f hr)
    have hwr : wrow W.A x k (.int n) = (W.A k).wr (putR (W.A k).rows x 7 (.int n)) := by unfold wrow; rw [if_pos c1, c3]
    have hG : GR3 (putR (W.A k).rows x 7 (.int n)) := T.good.put hx (by decide) (by decide) ⟨rfl, fun z => by omega⟩
    have hne : e.lt ≠ e.sa := fun z => by
      rw [z, h1] at h2; cases h2
      have := congrArg List.length jr
      rw [List.length_append] at this; simp at this
    refine ⟨c1, c2, i', sl, hi, hal, hsp.symm, f15, hs, T.good.len, .inr ⟨hne, ?_⟩⟩
    rw [hwr]
    refine h.setSh (o := (W.A k).wr (putR (W.A k).rows x 7 (.int n))) hk hal f15 ((h.si.setF2 (p := W.st k) (f := 14) (v := shv e.lt) (by decide)).eqv rfl rfl (fun _ => rfl) rfl rfl rfl (Nat.le_refl _)) (.refl _) h2 ?_ ?_ ?_ hG (h.abv k hk) (Nat.le_refl _) ?_ ?_ ?_ rfl (fun s hs' => setL_a hs') ?_
    · show j.rows = (putR (W.A k).rows x 7 (.int n)).map kf
      rw [jr, ir]; exact (wr_kf_put hfn).symm
    · exact jo.trans (o0.symm.trans io)
    · rw [jp, ip, upd_pro_wr]
    · intro q f hf; exact setF_f hf
    · intro q hq; exact setF_a hq
    · exact setF_at
    · exact setL_at.trans (wr_v_put hfn).symm
end
section
set_option linter.unusedSimpArgs false
set_option maxHeartbeats 4000000
set_option maxRecDepth 10000
theorem FrE.sie {σ σ' : H} (F : FrE σ σ') {S S' : SM} (E : Ext S S') {c : Nat} (hc : 4 ≤ c) {s : Addr} {x : Str} {lim : Int} {es : List En} {lost : Bool} {hi mi : Int} (h : SiE σ S c s x lim es lost hi mi) : SiE σ' S' c s x lim es lost hi mi :=
  ⟨F.si hc h.ok, fun e he => F.en E (h.en e he), h.len, h.l3, h.lo⟩
def EnWs (σ : H) (S : SM) (x : Str) (es : List En) : Prop := ∀ e ∈ es, EnW σ S x e
theorem FrE.ws {σ σ' : H} (F : FrE σ σ') {S S' : SM} (E : Ext S S') {x : Str} {es : List En} (h : ∀ e ∈ es, EnOk σ S x e) (w : EnWs σ S x es) : EnWs σ' S' x es := fun e he => (w e he).mono E (F.f3 _ (h e he).lt)
theorem new_enw {σ σ' : H} {W W' : Wd} (h : BI σ W) (h' : BI σ' W') {k : Nat} (hk : k < W.m) (st : Step W W' k) {x : Str} {n : Int} (hA : W'.A k = wrow W.A x k (.int n)) (hc : wcode W.A x k = 1) (hal : W.al k = false) (hal' : W'.al k = false) (hsp : ∀ p, find3 (W.A k).rows x = some p → W'.al k = W.al k ∧ W'.sp k = W.sp k)
    {e : En} (hsa : e.sa = W.sp k) (he : ∀ p, find3 (W.A k).rows x = some p → e.gs = [] ∧ ∃ n, e.res = some (n, p.1)) (hr : ∀ n f, e.res = some (n, f) → ∃ v, seen W.A x k = some (f, v)) :
    ∃ i j, W'.S e.sa = some i ∧ W'.S (W'.sp k) = some j ∧ ((e.gs = [] ∧ W'.sp k = e.sa ∧ ∃ n f, e.res = some (n, f) ∧ f < 8 ∧ f % 2 = 1) ∨
    (idxR 0 i.rows x = none ∧ i.op = true ∧ j.rows = i.rows ++ [(x, 7)] ∧ j.pro = i.pro ∧ j.op = true ∧ ∀ n f, e.res = some (n, f) → f < 8 ∧ f % 2 = 1)) := by
  obtain ⟨i, D⟩ := h.shd hk hal
  obtain ⟨j, D'⟩ := h'.shd (by rw [st.m]; exact hk) hal'
  refine ⟨i, j, by rw [hsa]; exact st.ext _ _ D.S, D'.S, ?_⟩
  have hwr : W'.A k = (W.A k).wr (putR (W.A k).rows x (wflag W.A x k) (.int n)) := by rw [hA]; unfold wrow; rw [if_pos hc]
  cases ho : find3 (W.A k).rows x with
  | some p =>
    obtain ⟨f, v⟩ := p
    obtain ⟨g0, m, hm⟩ := he _ ho
    refine .inl ⟨g0, by rw [(hsp _ ho).2, hsa], m, f, hm, ?_⟩
    unfold wcode at hc
    rw [ho] at hc
    change (if 8 ≤ f then (2 : Int) else if f % 2 = 0 then 0 else 1) = 1 at hc
    by_cases g8 : 8 ≤ f
    · rw [if_pos g8] at hc; cases hc
    · rw [if_neg g8] at hc
      by_cases g2 : f % 2 = 0
      · rw [if_pos g2] at hc; cases hc
      · omega
  | none =>
    have hc' := hc
    unfold wcode at hc
    rw [ho] at hc
    have hf7 : wflag W.A x k = 7 := by unfold wflag; rw [ho]
    rw [hf7] at hwr
    have hop : (W.A k).op = true ∧ ∀ f v, seen W.A x k = some (f, v) → f < 8 ∧ f % 2 = 1 := by
      unfold comes at hc
      cases hs : seen W.A x k with
      | none =>
        rw [hs] at hc
        cases hb : (W.A k).op with
        | true => exact ⟨rfl, fun _ _ e => nomatch e⟩
        | false => rw [hb] at hc; cases hc
      | some p =>
        obtain ⟨f, v⟩ := p
        rw [hs] at hc
        change (if 8 ≤ f then (2 : Int) else if f % 2 = 0 then 0 else if (W.A k).op = true then 1 else 0) = 1 at hc
        by_cases g8 : 8 ≤ f
        · rw [if_pos g8] at hc; cases hc
        · rw [if_neg g8] at hc
          by_cases g2 : f % 2 = 0
          · rw [if_pos g2] at hc; cases hc
          · rw [if_neg g2] at hc
            cases hb : (W.A k).op with
            | true => exact ⟨rfl, fun f' v' e => by cases e; omega⟩
            | false => rw [hb] at hc; cases hc
    refine .inr ⟨by rw [D.rows]; exact idx3_none.mpr ho, D.op.trans hop.1, ?_, ?_, ?_, fun m f e => ?_⟩
    · rw [D'.rows, hwr, D.rows]; exact wr_kf_put ho
    · rw [D'.pro, D.pro]; unfold Wd.pro; rw [hwr, st.st]; rfl
    · rw [D'.op, hwr]; exact hop.1
    · obtain ⟨v, hv⟩ := hr m f e; exact hop.2 f v hv
theorem EnWs.setF {σ : H} {S : SM} {x : Str} {es : List En} (h : EnWs σ S x es) {c : Nat} (hc : 4 ≤ c) {s : Addr} {f : Nat} {v : V} : EnWs (σ.setF c s f v) S x es := fun e he => (h e he).mono (.refl _) (congrFun (setF_cl (by exact pc6)) _)
theorem EnOk.set7 {σ : H} {S : SM} {x : Str} {o : En} (h : EnOk σ S x o) {a : Addr} {v : V} : EnOk (σ.setF 3 a 7 v) S x o :=
  ⟨(setF_f (by decide)).trans h.f14, by rw [setF_f (by decide)]; exact h.f20, fun m f hr => by rw [setF_f (by decide), setF_f (by decide), setF_f (by decide)]; exact h.some' m f hr, fun hr => (setF_f (by decide)).trans (h.none' hr), h.lt, h.ch, h.len⟩
theorem EnOk.lt' {σ : H} {S : SM} {x : Str} {o : En} (h : EnOk σ S x o) (a : Addr) : EnOk σ S x { o with lt := a } := ⟨h.f14, h.f20, h.some', h.none', h.lt, h.ch, h.len⟩
theorem learnE_in' {S : SM} {es : List En} {lost : Bool} {lim : Int} {e o : En} (h : o ∈ (learnE S es lost lim e).1) : o ∈ es ∨ o = e := by
  unfold learnE at h
  split at h
  · exact .inl h
  · split at h
    · cases h
    · rcases List.mem_append.mp h with h | h
      · exact .inl (List.mem_filter.mp h).1
      · exact .inr (List.mem_singleton.mp h)
theorem wt_hit {σ : H} {W : Wd} (h : BI σ W) {k : Nat} (hk : k < W.m) {s : Addr} {x : Str} (hx : x ∈ abc) {e : En} (E' : EnOk σ W.S x e) (w' : EnW σ W.S x e) (hm : Hm W k e.sa e.gs) {n : Int} {Q : V → H → Prop}
    (q1 : ∀ σ' W', BI σ' W' → Step W W' k → W'.A k = wrow W.A x k (.int n) → (∀ p, find3 (W.A k).rows x = some p → W'.al k = W.al k ∧ W'.sp k = W.sp k) → FrE σ σ' → Ext W.S W'.S → Q (.p2 (.int (wcode W.A x k)) (wval W.A x k)) σ') {l4 l5 : Option V} :
    (sCons (sIf (tCmp fEq (pF (pF (pV 3) 7) 0) (pF (pF (pV 3) 14) 0)) (sCons (sPutI (pV 2) (pF (pV 1) 15) (pF (pV 3) 22)) sNil) (sCons (sPutF (pF (pV 3) 7) (pV 1) 14) (sCons (sExpr (pAppend (pF (pV 1) 15) (pV 2))) sNil))) (sCons (sRet (pTup (eCons (pK (.int 1)) (eCons (pK .none) eNil)))) sNil)) [some (.ref (.inst 5) s), some (stv (W.st k)), some (.int n), some (enV e), l4, l5] σ (QF Q) := by
  obtain ⟨c1, c2, i, sl, hi', hal, hsa, f15, hsl, hlen, hit⟩ := hit_write h hk hx E' w' hm n
  obtain ⟨iL, jL, s1, s2, w3⟩ := w'.w
  have l1 := (h.si.sh _ _ s1).f0
  have l2 := (h.si.sh _ _ s2).f0
  have e14 := E'.f14
  have e7 := w'.f7
  rw [c1, c2] at q1
  rcases hit with ⟨z, m, f, hr, hm3, B2⟩ | ⟨z, B2⟩
  · obtain ⟨-, e22, -⟩ := E'.some' m f hr
    have hn := num_eq s2 s1 z
    repeat (walk_at "st")
    refine q_putL (by walk_at "ev") (by walk_at "ev") (by walk_at "ev") ?_ ?_
    · exact ⟨by exact pa1, by exact pd3, by rw [hsl, List.length_map]; exact hm3⟩
    rw [hsl]
    repeat (walk_at "st")
    have F2 : FrB σ (σ.setL 1 sl (((W.A k).rows.map (·.2.2)).set m (.int n))) := ⟨Nat.le_refl _, fun _ _ => rfl, fun k hk => setL_kl (by exact pc5), fun _ _ => rfl⟩
    exact q1 _ _ B2 (upd_step (.refl _) fun z => nomatch hal.symm.trans z) upd_A (fun p hp => ⟨upd_al.trans hal.symm, upd_sp⟩) F2.e (.refl _)
  · have hn := num_ne h s2 s1 z
    repeat (walk_at "st")
    refine q_expr (e_append (by walk_at "ev") (by walk_at "ev") (by rw [rd_setF_lst, hsl, List.length_map]; exact pc1) ?_)
    rw [rd_setF_lst, hsl]
    repeat (walk_at "st")
    have F2 : FrB σ ((σ.setF 2 (W.st k) 14 (shv e.lt)).setL 1 sl ((W.A k).rows.map (·.2.2) ++ [.int n])) := ⟨Nat.le_refl _, fun c hc => (setF_cl (by exact pc5) : (σ.setF 2 (W.st k) 14 (shv e.lt)).fld c = _), fun k hk => setL_kl (by exact pc5), fun _ _ => rfl⟩
    refine q1 _ _ B2 (upd_step (.refl _) fun z => nomatch hal.symm.trans z) upd_A (fun p hp => ?_) F2.e (.refl _)
    exfalso
    rcases w3 with ⟨-, w3, -⟩ | ⟨w3, -⟩
    · exact z w3
    · obtain ⟨i3, D⟩ := h.shd hk hal
      have := D.S
      rw [hm.hd.2, s1] at this; cases this
      rw [D.rows] at w3
      rw [idx3_none.mp w3] at hp; cases hp
theorem sp_write_to {σ : H} {W : Wd} (h : BI σ W) {k : Nat} (hk : k < W.m) {s : Addr} {x : Str} (hx : x ∈ abc) {lim : Int} {es : List En} {lost : Bool} {hi mi : Int} (hs : SiE σ W.S 5 s x lim es lost hi mi) (hw : EnWs σ W.S x es) (n : Int) {Q : V → H → Prop}
    (q1 : ∀ σ' W', (∃ e ∈ es, Hm W k e.sa e.gs) → BI σ' W' → Step W W' k → W'.A k = wrow W.A x k (.int n) → (∀ p, find3 (W.A k).rows x = some p → W'.al k = W.al k ∧ W'.sp k = W.sp k) → FrT σ σ' 5 s → SiE σ' W'.S 5 s x lim es lost (hi + 1) mi → EnWs σ' W'.S x es → Q (.p2 (.int (wcode W.A x k)) (wval W.A x k)) σ')
    (q2 : ∀ σ' W' es' lost', (∀ e ∈ es, ¬ Hm W k e.sa e.gs) → BI σ' W' → Step W W' k → W'.A k = wrow W.A x k (.int n) → (∀ p, find3 (W.A k).rows x = some p → W'.al k = W.al k ∧ W'.sp k = W.sp k) → FrT σ σ' 5 s → SiE σ' W'.S 5 s x lim es' lost' hi (mi + 1) → EnWs σ' W'.S x es' →
      (¬ (shar W x k = true ∧ wcode W.A x k = 1 ∧ W'.al k = false) → es' = es ∧ lost' = lost) →
      (shar W x k = true ∧ wcode W.A x k = 1 ∧ W'.al k = false → ∃ e, (es', lost') = learnE W'.S es lost lim e ∧ e.sa = W.sp k ∧ ∀ p, find3 (W.A k).rows x = some p → e.gs = []) → Q (.p2 (.int (wcode W.A x k)) (wval W.A x k)) σ') :
    F_WriteSite_write_to [.ref (.inst 5) s, stv (W.st k), .int n] σ Q := by
  refine q_def rfl (q_setC (e_meth (by walk_at "ev") rfl (by walk_at "ev") (sp_entry_for h hk hs.ok hs.en (fun e he hm => ?_) (fun hm => ?_))))
  · have SE : SiE (σ.setF 5 s 25 (.int (hi + 1))) W.S 5 s x lim es lost (hi + 1) mi := ⟨hs.ok.cnt.1, fun e he => (hs.en e he).setF (by decide), hs.len, hs.l3, hs.lo⟩
    have WS : EnWs (σ.setF 5 s 25 (.int (hi + 1))) W.S x es := hw.setF (by decide)
    refine q_iff (by walk_at "ev") (q_nil ?_)
    exact wt_hit (h.setF (by decide)) hk hx (SE.en e he) (WS e he) hm fun σ' W' B2 st A2 E2 F2 X2 => q1 σ' W' ⟨e, he, hm⟩ B2 st A2 E2 ((FrT.setF (by decide)).trans (F2.t _ _)) (F2.sie X2 (by decide) SE) (F2.ws X2 SE.en WS)
  · have B1 : BI (σ.setF 5 s 26 (.int (mi + 1))) W := h.setF (by decide)
    have SE1 : SiE (σ.setF 5 s 26 (.int (mi + 1))) W.S 5 s x lim es lost hi (mi + 1) := ⟨hs.ok.cnt.2, fun e he => (hs.en e he).setF (by decide), hs.len, hs.l3, hs.lo⟩
    have WS1 : EnWs (σ.setF 5 s 26 (.int (mi + 1))) W.S x es := hw.setF (by decide)
    have F1 : FrT σ (σ.setF 5 s 26 (.int (mi + 1))) 5 s := FrT.setF (by decide)
    have f3 := SE1.ok.f3
    repeat (walk_at "st")
    refine q_setC (e_call (by walk_at "ev") (sp_learnt B1 hk (fun sh σ2 B2 F2 => ?_) (fun sh σ2 e B2 F2 hen he hsa hme own res => ?_)))
    · have SE2 := F2.sie (.refl _) (c := 5) (by decide) SE1
      have WS2 := F2.ws (.refl _) SE1.en WS1
      have f3 := SE2.ok.f3
      repeat (walk_at "st")
      walk_at "ca"
      refine sp_write B2 hk hx n fun σ3 W3 B3 st3 A3 F3 E3 => ?_
      have fin := q2 σ3 W3 es lost hm B3 st3 A3 E3 ((F1.trans (F2.t _ _)).trans (F3.e.t _ _)) (F3.e.sie st3.ext (by decide) SE2) (F3.e.ws st3.ext SE2.en WS2) (fun _ => ⟨rfl, rfl⟩) (fun z => by rw [sh] at z; cases z.1)
      by_cases w1 : wcode W.A x k = 1
      · repeat (walk_at "st")
        exact fin
      · repeat (walk_at "st")
        exact fin
    · have SE2 := F2.sie (.refl _) (c := 5) (by decide) SE1
      have WS2 := F2.ws (.refl _) SE1.en WS1
      have f3 := SE2.ok.f3
      repeat (walk_at "st")
      walk_at "ca"
      refine sp_write B2 hk hx n fun σ3 W3 B3 st3 A3 F3 E3 => ?_
      have hk3' : k < W3.m := by rw [st3.m]; exact hk
      have f17 := (B3.st k hk3').f17
      rw [st3.st] at f17
      have SE3 := F3.e.sie st3.ext (by decide) SE2
      have WS3 := F3.e.ws st3.ext SE2.en WS2
      have F13 := (F1.trans (F2.t _ _)).trans (F3.e.t 5 s)
      have q2 := fun σ' es' lost' => q2 σ' W3 es' lost' hm
      have fin0 : ¬ (shar W x k = true ∧ wcode W.A x k = 1 ∧ W3.al k = false) → Q (.p2 (.int (wcode W.A x k)) (wval W.A x k)) σ3 := fun hz => q2 σ3 es lost B3 st3 A3 E3 F13 SE3 WS3 (fun _ => ⟨rfl, rfl⟩) (fun z => absurd z hz)
      by_cases w1 : wcode W.A x k = 1
      · cases hal3 : W3.al k with
        | true =>
          have := fin0 (fun z => by rw [hal3] at z; cases z.2.2)
          rw [hal3] at f17
          repeat (walk_at "st")
          exact this
        | false =>
          rw [hal3] at f17
          have hal : W.al k = false := by
            cases z : W.al k with
            | false => rfl
            | true => rw [st3.alk z] at hal3; cases hal3
          obtain ⟨j3, D3⟩ := B3.shd hk3' hal3
          have f14 := D3.f14
          rw [st3.st] at f14
          repeat (walk_at "st")
          have he4 := ((F3.e.en st3.ext he).set7 (a := e.ad) (v := shv (W3.sp k))).lt' (W3.sp k)
          have B4 : BI (σ3.setF 3 e.ad 7 (shv (W3.sp k))) W3 := B3.setF (by decide)
          have nad : ∀ o ∈ es, o.ad ≠ e.ad := fun o ho => Nat.ne_of_lt (Nat.lt_of_lt_of_le (SE1.en o ho).lt hen)
          have F4 : FrT σ (σ3.setF 3 e.ad 7 (shv (W3.sp k))) 5 s := by
            have hen' : σ.nxt ≤ e.ad := Nat.le_trans F1.nxt hen
            exact ⟨F13.nxt, fun c' a h1 h2 => (congrFun (setF_cl (by exact pc5)) a).trans (F13.fld c' a h1 h2), fun a ha => (setF_al (Nat.ne_of_lt (Nat.lt_of_lt_of_le ha hen'))).trans (F13.f3 a ha), F13.l3, F13.l4, F13.lst, F13.dS⟩
          have SE4 : SiE (σ3.setF 3 e.ad 7 (shv (W3.sp k))) W3.S 5 s x lim es lost hi (mi + 1) := ⟨SE3.ok.mono (congrFun (setF_cl (by decide)) s) (Nat.le_refl _) fun _ _ => rfl, fun o ho => (SE3.en o ho).set7, SE3.len, SE3.l3, SE3.lo⟩
          refine q_expr (e_meth (by walk_at "ev") rfl (by walk_at "ev") (sp_learn B4 (by decide) SE4.ok hs.l3 hs.len SE4.en (e := { e with lt := W3.sp k }) he4 fun σ5 F5 S5 => ?_))
          repeat (walk_at "st")
          obtain ⟨l1, l2, l3⟩ := learnE_ok SE4 he4
          have f35 : ∀ a, σ5.fld 3 a = (σ3.setF 3 e.ad 7 (shv (W3.sp k))).fld 3 a := fun a => F5.fld 3 a fun z => nomatch z.1
          refine q2 σ5 _ _ (F5.bi (by decide) B4) st3 A3 E3 (F4.trans (F5.t (by decide))) ⟨S5, fun o ho => F5.en (by decide) (l1 o ho), l2, hs.l3, l3⟩ (fun o ho => ?_) (fun z => absurd ⟨sh, w1, hal3⟩ z) (fun _ => ⟨{ e with lt := W3.sp k }, rfl, hsa, fun p hp => (own p hp).1⟩)
          rcases learnE_in' ho with ho | rfl
          · exact (WS3 o ho).mono (.refl _) ((f35 _).trans (setF_al (nad o ho)))
          · exact ⟨(congrFun (f35 e.ad) 7).trans setF_at, new_enw B2 B3 hk st3 A3 w1 hal hal3 E3 hsa own res⟩
      · have := fin0 (fun z => w1 z.2.1)
        repeat (walk_at "st")
        exact this
end
section
set_option linter.unusedSimpArgs false
set_option maxHeartbeats 4000000
set_option maxRecDepth 10000
structure FrX (σ σ' : H) : Prop where
  nxt : σ.nxt ≤ σ'.nxt
  fld : σ'.fld = σ.fld
  lst : ∀ k, k ≠ 13 → σ'.lst k = σ.lst k
  dS : ∀ k, k ≠ 4 → σ'.dS k = σ.dS k
  dI : σ'.dI = σ.dI
  dT : σ'.dT = σ.dT
theorem FrX.refl (σ : H) : FrX σ σ := ⟨Nat.le_refl _, rfl, fun _ _ => rfl, fun _ _ => rfl, rfl, rfl⟩
theorem FrX.trans {a b c : H} (x : FrX a b) (y : FrX b c) : FrX a c :=
  ⟨Nat.le_trans x.nxt y.nxt, y.fld.trans x.fld, fun k h => (y.lst k h).trans (x.lst k h), fun k h => (y.dS k h).trans (x.dS k h), y.dI.trans x.dI, y.dT.trans x.dT⟩
theorem FrX.bi {σ σ' : H} (F : FrX σ σ') {W : Wd} (h : BI σ W) : BI σ' W :=
  h.eqv (fun _ _ => by rw [F.fld]) (F.lst 1 (by decide)) (F.dS 0 (by decide)) (F.dS 1 (by decide)) (by rw [F.dI]) (by rw [F.dT]) F.nxt
theorem FrX.sie {σ σ' : H} (F : FrX σ σ') {S : SM} {c : Nat} {s : Addr} {x : Str} {lim : Int} {es : List En} {lost : Bool} {hi mi : Int} (h : SiE σ S c s x lim es lost hi mi) : SiE σ' S c s x lim es lost hi mi :=
  ⟨h.ok.mono (by rw [F.fld]) F.nxt fun a _ => by rw [F.lst 4 (by decide)], fun e he => (h.en e he).mono (.refl _) F.nxt (fun _ _ => by rw [F.fld]) fun _ _ => by rw [F.lst 3 (by decide)], h.len, h.l3, h.lo⟩
theorem FrX.ws {σ σ' : H} (F : FrX σ σ') {S : SM} {x : Str} {es : List En} (w : EnWs σ S x es) : EnWs σ' S x es := fun e he => (w e he).mono (.refl _) (by rw [F.fld])
theorem FrX.newL {σ : H} {a : Addr} {l : List V} (ha : σ.nxt ≤ a) : FrX σ (σ.newL 13 a l) :=
  ⟨Nat.le_succ_of_le ha, rfl, fun k hk => newL_kl hk, fun _ _ => rfl, rfl, rfl⟩
theorem FrX.resL {σ : H} {a : Addr} {l : List V} (ha : σ.nxt ≤ a) : FrX σ ((σ.res a).setL 13 a l) :=
  ⟨Nat.le_succ_of_le ha, rfl, fun k hk => (setL_kl hk : ((σ.res a).setL 13 a l).lst k = _), fun _ _ => rfl, rfl, rfl⟩
theorem FrX.newS {σ : H} {a : Addr} {l : List (Str × V)} {e : Nat} (ha : σ.nxt ≤ a) : FrX σ (σ.newS 4 a l e) :=
  ⟨Nat.le_succ_of_le ha, rfl, fun _ _ => rfl, fun k hk => newS_kl hk, rfl, rfl⟩
noncomputable abbrev sRows : Str := Str.ofString "rows"
noncomputable abbrev sAbove : Str := Str.ofString "above"
noncomputable abbrev sOpen : Str := Str.ofString "open"
noncomputable def abvV (o : OA) (k : Nat) : V := if o.abv then .int ((k - 1 : Nat) : Int) else .none
noncomputable def ownL (o : OA) (k : Nat) (rl : Addr) : List (Str × V) := [(sRows, .ref (.lst 7) rl), (sAbove, abvV o k), (sOpen, .bool o.op)]
theorem str_ra : sRows ≠ sAbove := by decide +kernel
theorem str_ro : sRows ≠ sOpen := by decide +kernel
theorem str_ao : sAbove ≠ sOpen := by decide +kernel
theorem dget_hd {K α : Type} [DecidableEq K] {l : List (K × α)} {k : K} {v : α} : dget ((k, v) :: l) k = some v := by
  unfold dget
  rw [List.find?_cons, decide_eq_true (rfl : (k, v).1 = k)]; rfl
theorem dget_tl {K α : Type} [DecidableEq K] {l : List (K × α)} {k k' : K} {v : α} (h : k' ≠ k) : dget ((k', v) :: l) k = dget l k := by
  unfold dget
  rw [List.find?_cons, decide_eq_false (show ¬ (k', v).1 = k from h)]
theorem dg_rows {o : OA} {k : Nat} {rl : Addr} : dget (ownL o k rl) sRows = some (.ref (.lst 7) rl) := dget_hd
theorem dg_above {o : OA} {k : Nat} {rl : Addr} : dget (ownL o k rl) sAbove = some (abvV o k) := (dget_tl str_ra).trans dget_hd
theorem dg_open {o : OA} {k : Nat} {rl : Addr} : dget (ownL o k rl) sOpen = some (.bool o.op) := (dget_tl str_ro).trans ((dget_tl str_ao).trans dget_hd)
set_option genInjectivity false in
structure Lw where
  owA : Addr
  stA : Addr
  ow : Nat → Addr
structure LI (σ : H) (W : Wd) (L : Lw) : Prop where
  owns : σ.lst 5 L.owA = (List.range W.m).map fun k => .ref (.dS 2) (L.ow k)
  stores : σ.lst 6 L.stA = (List.range W.m).map fun k => stv (W.st k)
  ow : ∀ k, k < W.m → ∃ rl, (σ.dS 2 (L.ow k)).1 = ownL (W.A k) k rl ∧ σ.lst 7 rl = (W.A k).rows.map r3V ∧ rl < σ.nxt
  owinj : ∀ k l, k < W.m → l < W.m → L.ow k = L.ow l → k = l
  rlinj : ∀ k l rl, k < W.m → l < W.m → (σ.dS 2 (L.ow k)).1 = ownL (W.A k) k rl → (σ.dS 2 (L.ow l)).1 = ownL (W.A l) l rl → k = l
theorem LI.eqv {σ σ' : H} {W : Wd} {L : Lw} (h : LI σ W L) (l5 : σ'.lst 5 = σ.lst 5) (l6 : σ'.lst 6 = σ.lst 6) (l7 : σ'.lst 7 = σ.lst 7) (d2 : σ'.dS 2 = σ.dS 2) (hn : σ.nxt ≤ σ'.nxt) : LI σ' W L :=
  ⟨by rw [l5]; exact h.owns, by rw [l6]; exact h.stores, fun k hk => by
    obtain ⟨rl, a, b, c⟩ := h.ow k hk
    exact ⟨rl, by rw [d2]; exact a, by rw [l7]; exact b, Nat.lt_of_lt_of_le c hn⟩, h.owinj, by rw [d2]; exact h.rlinj⟩
theorem FrX.li {σ σ' : H} (F : FrX σ σ') {W : Wd} {L : Lw} (h : LI σ W L) : LI σ' W L := h.eqv (F.lst 5 (by decide)) (F.lst 6 (by decide)) (F.lst 7 (by decide)) (F.dS 2 (by decide)) F.nxt
theorem range_get {m k : Nat} (h : k < m) {f : Nat → V} : ((List.range m).map f)[k]? = some (f k) := by
  rw [List.getElem?_map, List.getElem?_range h]; rfl
theorem LI.oget {σ : H} {W : Wd} {L : Lw} (h : LI σ W L) {k : Nat} (hk : k < W.m) : (σ.lst 5 L.owA)[((k : Nat) : Int).toNat]? = some (.ref (.dS 2) (L.ow k)) := by rw [h.owns]; exact range_get hk
theorem LI.sget {σ : H} {W : Wd} {L : Lw} (h : LI σ W L) {k : Nat} (hk : k < W.m) : (σ.lst 6 L.stA)[((k : Nat) : Int).toNat]? = some (stv (W.st k)) := by rw [h.stores]; exact range_get hk
theorem BI.ki {σ : H} {W : Wd} (h : BI σ W) {k : Nat} (hk : k < W.m) : 0 ≤ (k : Int) ∧ (k : Int) < 1000 := by
  have := h.m4
  exact ⟨by exact pa1, by exact pd3⟩
theorem BI.ab0 {σ : H} {W : Wd} (h : BI σ W) (hk : 0 < W.m) : (W.A 0).abv = false := by
  cases z : (W.A 0).abv with
  | false => rfl
  | true => exact absurd (h.abv 0 hk z) (Nat.lt_irrefl _)
theorem own_loop {rl : Addr} : ∀ (r pre : R3) (σ : H) (acc : List V) (l1 : Option V) (Q : List V → H → Prop), σ.lst 7 rl = (pre ++ r).map r3V → acc.length + r.length ≤ 900 → Q (acc ++ (r.map kp).map pairV) σ →
    compL 0 (aVar 0) tTrue (pTup (eCons (pSub (pV 0) (pK (.int 0))) (eCons (pTup (eCons (pSub (pV 0) (pK (.int 1))) (eCons (pSub (pV 0) (pK (.int 2))) eNil))) eNil))) (r.map r3V) (.lst 7 rl pre.length) [l1] acc σ Q := by
  intro r
  induction r with
  | nil => intro pre σ acc l1 Q h2 h4 q; rw [show acc ++ (List.map kp []).map pairV = acc from List.append_nil acc] at q; exact q
  | cons x r ih =>
    intro pre σ acc l1 Q h2 h4 q
    obtain ⟨k, f, v⟩ := x
    rw [List.length_cons] at h4
    refine cl_var rfl Et.tru (by walk_at "ev") (by exact pc9) ?_ trivial ?_
    · show (σ.lst 7 rl).drop (pre.length + 1) = _
      rw [h2, drop_mid]
    · have := ih (pre ++ [(k, f, v)]) σ (acc ++ [pairV (kp (k, f, v))]) (some (r3V (k, f, v))) Q (by rw [List.append_assoc]; exact h2) (by rw [List.length_append, List.length_singleton]; exact pb2) (by rw [List.append_assoc]; exact q)
      rw [List.length_append] at this
      exact this
theorem dput_fold : ∀ (r pre : R3), ((pre ++ r).map (·.1)).Nodup → (r.map kp).foldl (fun acc p => dput acc p.1 p.2) (pre.map kp) = (pre ++ r).map kp
  | [], pre, _ => by rw [List.append_nil]; rfl
  | (k, f, v) :: r, pre, nd => by
    have hk : k ∉ (pre.map kp).map (·.1) := fun z => by
      rw [List.map_map] at z
      rw [List.map_append, List.nodup_append] at nd
      exact nd.2.2 _ z k (.head _) rfl
    have := dput_fold r (pre ++ [(k, f, v)]) (by rw [List.append_assoc]; exact nd)
    rw [List.append_assoc, List.map_append] at this
    show (r.map kp).foldl _ (dput (pre.map kp) k (.p2 (.int f) v)) = _
    rw [dput_new hk]
    exact this
section
variable {σ : H} {W : Wd} {L : Lw} (h : LI σ W L) (hb : BI σ W) {k : Nat} (hk : k < W.m) {Q : V → H → Prop}
include h hb hk
theorem sp_own (x : Str) (q : ∀ σ', FrX σ σ' → Q (fvV (find3 (W.A k).rows x)) σ') : F_law_own [.ref (.lst 5) L.owA, .int k, .str x] σ Q := by
  obtain ⟨rl, d, l, -⟩ := h.ow k hk
  have hg := (hb.st k hk).good
  have hlen := hg.len
  have ki := hb.ki hk
  have og := h.oget hk
  have dg : dget (σ.dS 2 (L.ow k)).1 sRows = _ := d ▸ dg_rows
  refine q_def rfl (q_retFC (e_getC (e_bi (e_compL (by walk_at "ev") (fun _ h => nomatch h) fun a ha => ?_))))
  rw [l, List.drop_zero]
  refine own_loop (W.A k).rows [] (σ.res a) [] none _ l (by rw [List.length_nil]; exact pc8) ⟨Nat.lt_succ_self _, k_dict (ps := (W.A k).rows.map kp) setL_at (by rw [List.length_map]; exact pc1) fun c e hc => k_get (by walk_at "ev") ?_⟩
  have hf := dput_fold (W.A k).rows [] hg.nd
  have hf : ((W.A k).rows.map kp).foldl (fun acc p => dput acc p.1 p.2) [] = (W.A k).rows.map kp := hf
  rw [newS_at, hf, find3_dget]
  exact q _ ((FrX.resL ha).trans (FrX.newS hc))
noncomputable abbrev seenB : S1 := sCons (sSet 3 (pCall F_law_own (eCons (pV 0) (eCons (pV 1) (eCons (pV 2) eNil))))) (sCons (sIf (tCmp fIsNot (pV 3) (pK .none)) (sCons (sRet (pV 3)) sNil) sNil) (sCons (sSet 1 (pSub (pSub (pV 0) (pV 1)) (pK (.str (Str.ofString "above"))))) sNil))
noncomputable abbrev sharB : S1 := sCons (sIf (tVal (pF (pSub (pV 1) (pV 2)) 17)) (sCons (sRet (pK (.bool false))) sNil) sNil) (sCons (sIf (tCmp fIsNot (pCall F_law_own (eCons (pV 0) (eCons (pV 2) (eCons (pV 3) eNil)))) (pK .none)) (sCons (sRet (pK (.bool true))) sNil) sNil) (sCons (sSet 2 (pSub (pSub (pV 0) (pV 2)) (pK (.str (Str.ofString "above"))))) sNil))
end
theorem seen_loop {W : Wd} {L : Lw} {x : Str} : ∀ (k : Nat) (σ : H) (l3 : Option V) (m : Nat) (Q : Fl → Ls → H → Prop), LI σ W L → BI σ W → k < W.m →
    (∀ σ', FrX σ σ' → (∀ p, seen W.A x k = some p → ∀ ls, Q (.ret (fvV (some p))) ls σ') ∧ (seen W.A x k = none → ∀ l3, Q .next [some (.ref (.lst 5) L.owA), some .none, some (.str x), l3] σ')) →
    whileN (tCmp fIsNot (pV 1) (pK .none)) seenB (k + 2 + m) [some (.ref (.lst 5) L.owA), some (.int k), some (.str x), l3] σ Q := by
  have stop : ∀ (σ : H) (l3 : Option V) (m : Nat) (Q : Fl → Ls → H → Prop), Q .next [some (.ref (.lst 5) L.owA), some .none, some (.str x), l3] σ → whileN (tCmp fIsNot (pV 1) (pK .none)) seenB (m + 1) [some (.ref (.lst 5) L.owA), some .none, some (.str x), l3] σ Q := fun σ l3 m Q q => w_f (by walk_at "ev") q
  have core : ∀ (k : Nat) (σ : H) (l3 : Option V) (m : Nat) (Q : Fl → Ls → H → Prop), LI σ W L → BI σ W → k < W.m →
      (∀ σ', FrX σ σ' → (∀ p, find3 (W.A k).rows x = some p → ∀ ls, Q (.ret (fvV (some p))) ls σ') ∧ (find3 (W.A k).rows x = none → ∀ l3, whileN (tCmp fIsNot (pV 1) (pK .none)) seenB (m + 1) [some (.ref (.lst 5) L.owA), some (abvV (W.A k) k), some (.str x), l3] σ' Q)) →
      whileN (tCmp fIsNot (pV 1) (pK .none)) seenB (m + 2) [some (.ref (.lst 5) L.owA), some (.int k), some (.str x), l3] σ Q := by
    intro k σ l3 m Q h hb hk q
    refine w_t (by walk_at "ev") ?_
    walk_at "ca"
    refine sp_own h hb hk x fun σ' F => ?_
    have h' := F.li h
    obtain ⟨rl, d, -⟩ := h'.ow k hk
    cases hf : find3 (W.A k).rows x with
    | some p =>
      repeat (walk_at "st")
      exact (q σ' F).1 p hf _
    | none =>
      have := (q σ' F).2 hf
      have ki := hb.ki hk
      have og := h'.oget hk
      have dg : dget (σ'.dS 2 (L.ow k)).1 sAbove = _ := d ▸ dg_above
      repeat (walk_at "st")
      exact this _
  intro k
  induction k with
  | zero =>
    intro σ l3 m Q h hb hk q
    rw [show 0 + 2 + m = m + 2 by exact pa11]
    refine core 0 σ l3 m Q h hb hk fun σ' F => ⟨(q σ' F).1, fun hf l3 => ?_⟩
    rw [abvV, hb.ab0 hk]
    exact stop _ _ _ _ ((q σ' F).2 hf l3)
  | succ k ih =>
    intro σ l3 m Q h hb hk q
    rw [show k + 1 + 2 + m = (k + 1 + m) + 2 by exact pa9]
    refine core (k + 1) σ l3 (k + 1 + m) Q h hb hk fun σ' F => ⟨fun p hp => (q σ' F).1 p (seen_own hp), fun hf l3 => ?_⟩
    cases hab : (W.A (k + 1)).abv with
    | false =>
      rw [abvV, hab]
      exact stop _ _ _ _ ((q σ' F).2 (by unfold seen; rw [hf, hab]; rfl) l3)
    | true =>
      have hs : seen W.A x (k + 1) = seen W.A x k := by rw [seen, hf, hab]; rfl
      rw [abvV, hab]
      rw [if_pos rfl, Nat.add_sub_cancel, show k + 1 + m + 1 = k + 2 + m by exact pa8]
      refine ih σ' l3 m Q (F.li h) (F.bi hb) (by exact pb6) fun σ2 F2 => ?_
      have := q σ2 (F.trans F2)
      rw [hs] at this
      exact this
theorem shar_loop {W : Wd} {L : Lw} {x : Str} : ∀ (k : Nat) (σ : H) (m : Nat) (Q : Fl → Ls → H → Prop), LI σ W L → BI σ W → k < W.m →
    (∀ σ', FrX σ σ' → (∀ ls, Q (.ret (.bool (shar W x k))) ls σ') ∧ (shar W x k = true → Q .next [some (.ref (.lst 5) L.owA), some (.ref (.lst 6) L.stA), some .none, some (.str x)] σ')) →
    whileN (tCmp fIsNot (pV 2) (pK .none)) sharB (k + 2 + m) [some (.ref (.lst 5) L.owA), some (.ref (.lst 6) L.stA), some (.int k), some (.str x)] σ Q := by
  have stop : ∀ (σ : H) (m : Nat) (Q : Fl → Ls → H → Prop), Q .next [some (.ref (.lst 5) L.owA), some (.ref (.lst 6) L.stA), some .none, some (.str x)] σ → whileN (tCmp fIsNot (pV 2) (pK .none)) sharB (m + 1) [some (.ref (.lst 5) L.owA), some (.ref (.lst 6) L.stA), some .none, some (.str x)] σ Q := fun σ m Q q => w_f (by walk_at "ev") q
  have core : ∀ (k : Nat) (σ : H) (m : Nat) (Q : Fl → Ls → H → Prop), LI σ W L → BI σ W → k < W.m →
      (W.al k = true → ∀ ls, Q (.ret (.bool false)) ls σ) → (W.al k = false → ∀ σ', FrX σ σ' → ((find3 (W.A k).rows x).isSome → ∀ ls, Q (.ret (.bool true)) ls σ') ∧ (find3 (W.A k).rows x = none → whileN (tCmp fIsNot (pV 2) (pK .none)) sharB (m + 1) [some (.ref (.lst 5) L.owA), some (.ref (.lst 6) L.stA), some (abvV (W.A k) k), some (.str x)] σ' Q)) →
      whileN (tCmp fIsNot (pV 2) (pK .none)) sharB (m + 2) [some (.ref (.lst 5) L.owA), some (.ref (.lst 6) L.stA), some (.int k), some (.str x)] σ Q := by
    intro k σ m Q h hb hk q1 q2
    have ki := hb.ki hk
    have sg := h.sget hk
    have f17 := (hb.st k hk).f17
    refine w_t (by walk_at "ev") ?_
    cases hal : W.al k with
    | true =>
      rw [hal] at f17
      repeat (walk_at "st")
      exact q1 hal _
    | false =>
      rw [hal] at f17
      repeat (walk_at "st")
      walk_at "ca"
      refine sp_own h hb hk x fun σ' F => ?_
      have h' := F.li h
      obtain ⟨rl, d, -⟩ := h'.ow k hk
      cases hf : find3 (W.A k).rows x with
      | some p =>
        refine k_ift ?_
        repeat (walk_at "st")
        exact (q2 hal σ' F).1 (by rw [hf]; rfl) _
      | none =>
        have := (q2 hal σ' F).2 hf
        have og := h'.oget hk
        have dg : dget (σ'.dS 2 (L.ow k)).1 sAbove = _ := d ▸ dg_above
        refine k_iff ?_
        repeat (walk_at "st")
        exact this
  intro k
  induction k with
  | zero =>
    intro σ m Q h hb hk q
    rw [show 0 + 2 + m = m + 2 by exact pa11]
    have hab := hb.ab0 hk
    refine core 0 σ m Q h hb hk (fun hal => ?_) (fun hal σ' F => ?_)
    · have := (q σ (.refl _)).1
      unfold shar at this; rw [hal] at this; exact this
    · have := q σ' F
      unfold shar at this; rw [hal] at this
      exact ⟨fun _ => this.1, fun _ => by rw [abvV, hab]; exact stop _ _ _ (this.2 rfl)⟩
  | succ k ih =>
    intro σ m Q h hb hk q
    rw [show k + 1 + 2 + m = (k + 1 + m) + 2 by exact pa9]
    refine core (k + 1) σ (k + 1 + m) Q h hb hk (fun hal => ?_) (fun hal σ' F => ⟨fun hf => ?_, fun hf => ?_⟩)
    · have := (q σ (.refl _)).1
      unfold shar at this; rw [hal] at this; exact this
    · have := (q σ' F).1
      unfold shar at this; rw [hal, hf] at this; exact this
    · cases hab : (W.A (k + 1)).abv with
      | false =>
        have := (q σ' F).2
        unfold shar at this; rw [hal, hf, hab] at this
        rw [abvV, hab]
        exact stop _ _ _ (this rfl)
      | true =>
        have hs : shar W x (k + 1) = shar W x k := by rw [shar, hal, hf, hab]; simp
        rw [abvV, hab]
        rw [if_pos rfl, Nat.add_sub_cancel, show k + 1 + m + 1 = k + 2 + m by exact pa8]
        refine ih σ' m Q (F.li h) (F.bi hb) (by exact pb6) fun σ2 F2 => ?_
        have := q σ2 (F.trans F2)
        rw [hs] at this
        exact this
section
variable {σ : H} {W : Wd} {L : Lw} (h : LI σ W L) (hb : BI σ W) {k : Nat} (hk : k < W.m) {Q : V → H → Prop}
include h hb hk
theorem sp_lseen (x : Str) (q : ∀ σ', FrX σ σ' → Q (fvV (seen W.A x k)) σ') : F_law_seen [.ref (.lst 5) L.owA, .int k, .str x] σ Q := by
  refine q_def rfl (q_while (k + 2 + 0) (seen_loop k σ none 0 _ h hb hk fun σ' F => ⟨fun p hp ls => ?_, fun hn l3 => ?_⟩))
  · have := q σ' F; rw [hp] at this; exact this
  · have := q σ' F; rw [hn] at this
    repeat (walk_at "st")
    exact this
theorem sp_lshared (x : Str) (q : ∀ σ', FrX σ σ' → Q (.bool (shar W x k)) σ') : F_law_shared [.ref (.lst 5) L.owA, .ref (.lst 6) L.stA, .int k, .str x] σ Q := by
  refine q_def rfl (q_while (k + 2 + 0) (shar_loop k σ 0 _ h hb hk fun σ' F => ⟨fun ls => q σ' F, fun hn => ?_⟩))
  have := q σ' F; rw [hn] at this
  repeat (walk_at "st")
  exact this
end
end
section
set_option linter.unusedSimpArgs false
set_option maxHeartbeats 4000000
set_option maxRecDepth 10000
noncomputable def spotsL : Nat → R3 → Str → List V
  | _, [], _ => []
  | n, (k, _, _) :: r, x => if k = x then .int n :: spotsL (n + 1) r x else spotsL (n + 1) r x
theorem spots_none : ∀ {r : R3} {n : Nat} {x : Str}, idxR n (r.map kf) x = none → spotsL n r x = []
  | [], _, _, _ => rfl
  | (k, f, v) :: r, n, x, h => by
    simp only [List.map_cons, kf, idxR] at h
    unfold spotsL
    by_cases e : k = x
    · rw [if_pos e] at h; cases h
    · rw [if_neg e] at h; rw [if_neg e]; exact spots_none h
theorem spots_some : ∀ {r : R3} {n i : Nat} {x : Str} {f : Int}, idxR n (r.map kf) x = some (i, f) → ∃ l, spotsL n r x = .int i :: l
  | [], _, _, _, _, h => by simp [idxR] at h
  | (k, f', v) :: r, n, i, x, f, h => by
    simp only [List.map_cons, kf, idxR] at h
    unfold spotsL
    by_cases e : k = x
    · rw [if_pos e] at h; rw [if_pos e]; cases h; exact ⟨_, rfl⟩
    · rw [if_neg e] at h; rw [if_neg e]; exact spots_some h
theorem spots_len : ∀ {r : R3} {n : Nat} {x : Str}, (spotsL n r x).length ≤ r.length ∧ ∀ v ∈ spotsL n r x, ∃ i : Int, v = .int i
  | [], _, _ => ⟨Nat.le_refl _, fun _ h => nomatch h⟩
  | (k, f, v) :: r, n, x => by
    obtain ⟨a, b⟩ := spots_len (r := r) (n := n + 1) (x := x)
    unfold spotsL
    split
    · refine ⟨Nat.succ_le_succ a, fun v hv => ?_⟩
      rcases List.mem_cons.mp hv with rfl | hv
      · exact ⟨_, rfl⟩
      · exact b v hv
    · exact ⟨Nat.le_succ_of_le a, b⟩
theorem ints_pl {l : List V} (h : ∀ v ∈ l, ∃ i : Int, v = .int i) : l.all (V.pl 4) = true := by
  rw [List.all_eq_true]
  intro v hv
  obtain ⟨i, rfl⟩ := h v hv
  rfl
theorem spots_loop {rl : Addr} {x : Str} (hx : PyData.strOk x = true) : ∀ (r pre : R3) (σ : H) (acc : List V) (l1 l2 : Option V) (Q : List V → H → Prop), σ.lst 7 rl = (pre ++ r).map r3V → (∀ y ∈ r, y.1 ∈ abc) → acc.length + r.length ≤ 900 → Q (acc ++ spotsL pre.length r x) σ →
    compL 1 (aTup 2 (asCons (aVar 1) (asCons (aVar 2) asNil))) (tCmp fEq (pSub (pV 2) (pK (.int 0))) (pV 0)) (pV 1) (enumV pre.length (r.map r3V)) (.enm 7 rl pre.length) [some (.str x), l1, l2] acc σ Q := by
  intro r
  induction r with
  | nil => intro pre σ acc l1 l2 Q h2 hr h4 q; rw [show acc ++ spotsL pre.length [] x = acc from List.append_nil acc] at q; exact q
  | cons y r ih =>
    intro pre σ acc l1 l2 Q h2 hr h4 q
    obtain ⟨k, f, v⟩ := y
    rw [List.length_cons] at h4
    have hk : (V.str k).pl 4 = true := abc_pl (hr (k, f, v) (.head _))
    have hx : (V.str x).pl 4 = true := hx
    have adv : (IK.enm 7 rl pre.length).adv.items σ = enumV (pre.length + 1) (r.map r3V) := by
      show enumV (pre.length + 1) ((σ.lst 7 rl).drop (pre.length + 1)) = _
      rw [h2, drop_mid]
    have ih := fun acc => ih (pre ++ [(k, f, v)]) σ acc (some (.int pre.length)) (some (r3V (k, f, v))) Q (by rw [List.append_assoc]; exact h2) (fun y hy => hr y (.tail _ hy))
    rw [List.length_append] at ih
    unfold spotsL at q
    by_cases e : k = x
    · rw [if_pos e] at q
      exact cl_tup2 rfl (Et.eqv (v := .str k) (w := .str x) (by walk_at "ev") (by walk_at "ev") hk hx (decide_eq_true (congrArg V.str e))) (by walk_at "ev") (by exact pc9) adv trivial (ih (acc ++ [.int pre.length]) (by rw [List.length_append, List.length_singleton]; exact pb2) (by rw [List.append_assoc]; exact q))
    · rw [if_neg e] at q
      exact cl_tup20 rfl (Et.eqv (v := .str k) (w := .str x) (by walk_at "ev") (by walk_at "ev") hk hx (decide_eq_false fun z => e (V.str.inj z))) adv trivial (ih acc (by exact pb3) q)
structure FrY (σ σ' : H) : Prop where
  nxt : σ.nxt ≤ σ'.nxt
  fld : σ'.fld = σ.fld
  lst : ∀ k, k ≠ 13 → k ≠ 7 → σ'.lst k = σ.lst k
  dS : ∀ k, k ≠ 4 → k ≠ 2 → σ'.dS k = σ.dS k
  dI : σ'.dI = σ.dI
  dT : σ'.dT = σ.dT
theorem FrX.y {σ σ' : H} (h : FrX σ σ') : FrY σ σ' := ⟨h.nxt, h.fld, fun k a _ => h.lst k a, fun k a _ => h.dS k a, h.dI, h.dT⟩
theorem FrY.trans {a b c : H} (x : FrY a b) (y : FrY b c) : FrY a c :=
  ⟨Nat.le_trans x.nxt y.nxt, y.fld.trans x.fld, fun k h h' => (y.lst k h h').trans (x.lst k h h'), fun k h h' => (y.dS k h h').trans (x.dS k h h'), y.dI.trans x.dI, y.dT.trans x.dT⟩
theorem FrY.bi {σ σ' : H} (F : FrY σ σ') {W : Wd} (h : BI σ W) : BI σ' W :=
  h.eqv (fun _ _ => by rw [F.fld]) (F.lst 1 (by decide) (by decide)) (F.dS 0 (by decide) (by decide)) (F.dS 1 (by decide) (by decide)) (by rw [F.dI]) (by rw [F.dT]) F.nxt
theorem FrY.sie {σ σ' : H} (F : FrY σ σ') {S : SM} {c : Nat} {s : Addr} {x : Str} {lim : Int} {es : List En} {lost : Bool} {hi mi : Int} (h : SiE σ S c s x lim es lost hi mi) : SiE σ' S c s x lim es lost hi mi :=
  ⟨h.ok.mono (by rw [F.fld]) F.nxt fun a _ => by rw [F.lst 4 (by decide) (by decide)], fun e he => (h.en e he).mono (.refl _) F.nxt (fun _ _ => by rw [F.fld]) fun _ _ => by rw [F.lst 3 (by decide) (by decide)], h.len, h.l3, h.lo⟩
theorem FrY.ws {σ σ' : H} (F : FrY σ σ') {S : SM} {x : Str} {es : List En} (w : EnWs σ S x es) : EnWs σ' S x es := fun e he => (w e he).mono (.refl _) (by rw [F.fld])
theorem LI.chg {σ σ' : H} {W W' : Wd} {L : Lw} (h : LI σ W L) {k : Nat} (hk : k < W.m) (em : W'.m = W.m) (es : W'.st = W.st) (eA : ∀ l, l ≠ k → W'.A l = W.A l) (hn : σ.nxt ≤ σ'.nxt) (l5 : σ'.lst 5 = σ.lst 5) (l6 : σ'.lst 6 = σ.lst 6)
    {rl rl' : Addr} (hd : (σ.dS 2 (L.ow k)).1 = ownL (W.A k) k rl) (hd' : (σ'.dS 2 (L.ow k)).1 = ownL (W'.A k) k rl') (hl' : σ'.lst 7 rl' = (W'.A k).rows.map r3V) (hr : rl' = rl ∨ (σ.nxt ≤ rl' ∧ rl' < σ'.nxt))
    (od : ∀ a, a ≠ L.ow k → σ'.dS 2 a = σ.dS 2 a) (ol : ∀ a, a ≠ rl → a < σ.nxt → σ'.lst 7 a = σ.lst 7 a) : LI σ' W' L := by
  have one : ∀ l, l < W.m → l ≠ k → σ'.dS 2 (L.ow l) = σ.dS 2 (L.ow l) := fun l hl ne => od _ fun z => ne (h.owinj l k hl hk z)
  have inj0 : ∀ (o : OA) (k' : Nat) (r1 r2 : Addr) (o2 : OA) (k2 : Nat), ownL o k' r1 = ownL o2 k2 r2 → r1 = r2 := fun o k' r1 r2 o2 k2 z => by
    have z := congrArg Prod.snd (List.cons.inj z).1; injection z
  have old : ∀ l t, l < W.m → (σ.dS 2 (L.ow l)).1 = ownL (W.A l) l t → t < σ.nxt := fun l t hl z => by
    obtain ⟨t', a, b, c⟩ := h.ow l hl
    rw [inj0 _ _ _ _ _ _ (z.symm.trans a)]; exact c
  refine ⟨by rw [l5, em]; exact h.owns, by rw [l6, em, es]; exact h.stores, fun l hl => ?_, by rw [em]; exact h.owinj, fun a b t ha hb za zb => ?_⟩
  · rw [em] at hl
    by_cases e : l = k
    · subst e
      refine ⟨rl', hd', hl', ?_⟩
      rcases hr with rfl | hr
      · exact Nat.lt_of_lt_of_le (old l rl' hk hd) hn
      · exact hr.2
    · obtain ⟨t, z1, z2, z3⟩ := h.ow l hl
      have ne : t ≠ rl := fun z => e (h.rlinj l k t hl hk z1 (z ▸ hd))
      exact ⟨t, by rw [one l hl e, eA l e]; exact z1, by rw [ol t ne z3, eA l e]; exact z2, Nat.lt_of_lt_of_le z3 hn⟩
  · rw [em] at ha hb
    by_cases ea : a = k <;> by_cases eb : b = k
    · rw [ea, eb]
    · subst ea
      rw [one b hb eb, eA b eb] at zb
      have := inj0 _ _ _ _ _ _ (za.symm.trans hd')
      subst this
      rcases hr with z | hr
      · exact (h.rlinj b a t hb ha zb (z ▸ hd)).symm
      · exact absurd (old b t hb zb) (Nat.not_lt.mpr hr.1)
    · subst eb
      rw [one a ha ea, eA a ea] at za
      have := inj0 _ _ _ _ _ _ (zb.symm.trans hd')
      subst this
      rcases hr with z | hr
      · exact h.rlinj a b t ha hb za (z ▸ hd)
      · exact absurd (old a t ha za) (Nat.not_lt.mpr hr.1)
    · rw [one a ha ea, eA a ea] at za
      rw [one b hb eb, eA b eb] at zb
      exact h.rlinj a b t ha hb za zb
theorem sp_lput {σ : H} {W : Wd} {L : Lw} (h : LI σ W L) (hm : W.m ≤ 4) {k : Nat} (hk : k < W.m) (hg : GR3 (W.A k).rows) {x : Str} (hx : x ∈ abc) {f : Int} {v : V} {Q : V → H → Prop}
    (q : ∀ σ', FrY σ σ' → (∀ W' : Wd, W'.m = W.m → W'.st = W.st → (∀ l, l ≠ k → W'.A l = W.A l) → W'.A k = (W.A k).wr (putR (W.A k).rows x f v) → LI σ' W' L) → Q .none σ') : F_law_put [.ref (.lst 5) L.owA, .int k, .str x, .int f, v] σ Q := by
  obtain ⟨rl, d, l, hrl⟩ := h.ow k hk
  have hlen := hg.len
  obtain ⟨sl1, sl2⟩ := spots_len (r := (W.A k).rows) (n := 0) (x := x)
  have og := h.oget hk
  have dg : dget (σ.dS 2 (L.ow k)).1 sRows = _ := d ▸ dg_rows
  have ki : 0 ≤ (k : Int) ∧ (k : Int) < 1000 := ⟨by exact pa1, by exact pd3⟩
  refine q_def rfl ?_
  walk_at "st"
  refine q_setC (e_compE (by walk_at "ev") (fun i hi => by cases List.mem_singleton.mp hi; exact ⟨_, rfl⟩) fun a ha => ?_)
  rw [l, List.drop_zero]
  refine spots_loop (abc_strOk hx) (W.A k).rows [] (σ.res a) [] none none _ l (fun y hy => (hg.1.2 _ (List.mem_map.mpr ⟨y, hy, rfl⟩)).1) (by rw [List.length_nil]; exact pc8) ⟨Nat.lt_succ_self _, ?_⟩
  refine q_ifC (d_cmp (e_val (by walk_at "ev") (e_list El.nil (Nat.zero_le _) fun b hb => ?_)))
  rw [List.nil_append, show ([] : R3).length = 0 from rfl] at hb ⊢
  have hab : a ≠ b := Nat.ne_of_lt hb
  have F1 : FrX σ ((σ.res a).setL 13 a (spotsL 0 (W.A k).rows x)) := FrX.resL ha
  have F2 : FrX σ (((σ.res a).setL 13 a (spotsL 0 (W.A k).rows x)).newL 13 b []) := F1.trans (FrX.newL hb)
  have ea : (((σ.res a).setL 13 a (spotsL 0 (W.A k).rows x)).newL 13 b []).lst 13 a = spotsL 0 (W.A k).rows x := (newL_a hab).trans setL_at
  have eb : (((σ.res a).setL 13 a (spotsL 0 (W.A k).rows x)).newL 13 b []).lst 13 b = [] := newL_at
  have el : (((σ.res a).setL 13 a (spotsL 0 (W.A k).rows x)).newL 13 b []).lst 7 rl = (W.A k).rows.map r3V := l
  have e5 : (((σ.res a).setL 13 a (spotsL 0 (W.A k).rows x)).newL 13 b []).lst 5 = σ.lst 5 := F2.lst 5 (by decide)
  have e6 : (((σ.res a).setL 13 a (spotsL 0 (W.A k).rows x)).newL 13 b []).lst 6 = σ.lst 6 := F2.lst 6 (by decide)
  have e7 : ∀ c, (((σ.res a).setL 13 a (spotsL 0 (W.A k).rows x)).newL 13 b []).lst 7 c = σ.lst 7 c := fun c => congrFun (F2.lst 7 (by decide)) c
  have e2 : (((σ.res a).setL 13 a (spotsL 0 (W.A k).rows x)).newL 13 b []).dS 2 = σ.dS 2 := rfl
  generalize ((σ.res a).setL 13 a (spotsL 0 (W.A k).rows x)).newL 13 b [] = τ at F2 ea eb el e5 e6 e7 e2 ⊢
  have fin : ∀ R', R' = (putR (W.A k).rows x f v).map r3V → Q .none (τ.setL 7 rl R') := fun R' e => by
    subst e
    refine q _ ⟨F2.nxt, F2.fld, fun k' h1 h2 => (setL_kl h2).trans (F2.lst k' h1), fun k' h1 _ => F2.dS k' h1, F2.dI, F2.dT⟩ fun W' em es eA eK => ?_
    exact h.chg hk em es eA F2.nxt ((setL_kl (by decide)).trans e5) ((setL_kl (by decide)).trans e6) d (rl' := rl) (by rw [eK]; exact (congrArg (fun d => (d (L.ow k)).1) e2).trans d) (by rw [eK]; exact setL_at) (.inl rfl) (fun c _ => congrFun e2 c) (fun c hc _ => (setL_a hc).trans (e7 c))
  refine k_eqL (by rw [ea]; exact ints_pl sl2) (by rw [eb]; rfl) ?_
  rw [ea, eb]
  cases hx' : idxR 0 ((W.A k).rows.map kf) x with
  | none =>
    rw [spots_none hx']
    refine k_ift (q_cons (q_expr (e_append (by walk_at "ev") (by walk_at "ev") (by rw [el, List.length_map]; exact pc1) ?_)))
    rw [el]
    repeat (walk_at "st")
    exact fin _ (by rw [putR_new (idx3_none.mp hx'), List.map_append]; rfl)
  | some p =>
    obtain ⟨i, f0⟩ := p
    obtain ⟨l', hl'⟩ := spots_some hx'
    obtain ⟨j, v0, hj1, hj2, -⟩ := idx3_some hx'
    rw [Nat.zero_add] at hj1; subst hj1
    have hi := (List.getElem?_eq_some_iff.mp hj2).1
    rw [hl'] at ea ⊢
    refine k_iff (q_cons (q_putL (n := (i : Int)) (by walk_at "ev") (by walk_at "ev") (Ev.subL (by walk_at "ev") Ev.con (by decide) (by rw [ea]; rfl)) ?_ ?_))
    · rw [el, List.length_map]; exact ⟨by exact pa1, by exact pd3, hi⟩
    · rw [el]
      repeat (walk_at "st")
      refine fin _ ?_
      rw [putR_set (n := 0) (f0 := f0) (by rw [Nat.zero_add]; exact hx'), List.map_set]
      rfl
theorem wcode_s {A : Nat → OA} {x : Str} {k : Nat} {f : Int} {v : V} (hs : seen A x k = some (f, v)) : wcode A x k = if 8 ≤ f then 2 else if f % 2 = 0 then 0 else if ((find3 (A k).rows x).isSome || (A k).op) = true then 1 else 0 := by
  unfold wcode comes
  cases ho : find3 (A k).rows x with
  | none => rw [hs]; rfl
  | some p => have := seen_own ho; rw [hs] at this; cases this; rfl
theorem sp_lwritten {σ : H} {W : Wd} {L : Lw} (h : LI σ W L) (hb : BI σ W) {k : Nat} (hk : k < W.m) {x : Str} (hx : x ∈ abc) {n : Int} {Q : V → H → Prop}
    (q : ∀ σ', FrY σ σ' → (∀ W' : Wd, W'.m = W.m → W'.st = W.st → (∀ l, l ≠ k → W'.A l = W.A l) → W'.A k = wrow W.A x k (.int n) → LI σ' W' L) → Q (.p2 (.int (wcode W.A x k)) (wval W.A x k)) σ') : F_law_written [.ref (.lst 5) L.owA, .int k, .str x, .int n] σ Q := by
  have ki := hb.ki hk
  refine q_def rfl (q_swap2C (e_tup (el_cons (e_call (by walk_at "ev") (sp_own h hb hk x fun σ1 F1 => el_cons (e_call (by walk_at "ev") (sp_lseen (F1.li h) (F1.bi hb) hk x fun σ2 F2 => el_val El.nil (k_tup2 (k_sw2 ?_)))))))))
  have F := F1.trans F2
  have h2 := F.li h
  have b2 := F.bi hb
  have same : W.A k = wrow W.A x k (.int n) → Q (.p2 (.int (wcode W.A x k)) (wval W.A x k)) σ2 := fun e => by
    refine q σ2 F.y fun W' em es eA eK => ?_
    rw [← e] at eK
    have eAll : ∀ l, W'.A l = W.A l := fun l => by
      by_cases z : l = k
      · rw [z, eK]
      · exact eA l z
    refine ⟨by rw [em]; exact h2.owns, by rw [em, es]; exact h2.stores, fun l hl => ?_, by rw [em]; exact h2.owinj, fun a b t ha hb => ?_⟩
    · rw [eAll]; exact h2.ow l (em ▸ hl)
    · rw [eAll, eAll]; exact h2.rlinj a b t (em ▸ ha) (em ▸ hb)
  have same : ∀ c, wcode W.A x k = c → c ≠ 1 → Q (.p2 (.int c) (wval W.A x k)) σ2 := fun c wc c1 => wc ▸ same (by unfold wrow; rw [if_neg (by rw [wc]; exact c1)])
  have put : ∀ f : Int, wcode W.A x k = 1 → wval W.A x k = .none → f = wflag W.A x k → ∀ Q' : V → H → Prop, (∀ σ3, Q (.p2 (.int 1) .none) σ3 → Q' .none σ3) → F_law_put [.ref (.lst 5) L.owA, .int k, .str x, .int f, .int n] σ2 Q' := fun f w1 w2 w3 Q' hQ => by
    refine sp_lput h2 hb.m4 hk (b2.st k hk).good hx fun σ3 F3 h3 => hQ σ3 ?_
    have := q σ3 (F.y.trans F3) fun W' em es eA eK => h3 W' em es eA (by rw [eK]; unfold wrow; rw [if_pos w1, w3])
    rw [w1, w2] at this; exact this
  clear q
  have og := h2.oget hk
  obtain ⟨rl, d, -⟩ := h2.ow k hk
  have dg : dget (σ2.dS 2 (L.ow k)).1 sOpen = _ := d ▸ dg_open
  cases hs : seen W.A x k with
  | none =>
    have ho : find3 (W.A k).rows x = none := by
      cases z : find3 (W.A k).rows x with
      | none => rfl
      | some p => rw [seen_own z] at hs; cases hs
    have wv : wval W.A x k = .none := wval_none fun f v e => by rw [hs] at e; cases e
    have wc : wcode W.A x k = if (W.A k).op then 1 else 0 := by unfold wcode comes; rw [ho, hs]
    have wf : (7 : Int) = wflag W.A x k := by unfold wflag; rw [ho]
    rw [ho]
    cases hop : (W.A k).op with
    | true =>
      rw [hop] at wc dg
      repeat (walk_at "st")
      walk_at "ca"
      refine put 7 wc wv wf _ fun σ3 z => ?_
      repeat (walk_at "st")
      exact z
    | false =>
      rw [hop] at wc dg
      repeat (walk_at "st")
      exact wv ▸ same 0 wc (by decide)
  | some p =>
    obtain ⟨f, v⟩ := p
    obtain ⟨f0, f1, hv⟩ := seen_good hb k hk hs
    have wc := wcode_s hs
    by_cases g8 : 8 ≤ f
    · rw [if_pos g8] at wc
      obtain ⟨g, s, rfl, -⟩ := hv.2 g8
      have wv : wval W.A x k = .str s := by unfold wval; rw [hs]; exact if_pos g8
      repeat (walk_at "st")
      exact wv ▸ same 2 wc (by decide)
    · rw [if_neg g8] at wc
      have wv : wval W.A x k = .none := wval_none fun f' v' e => by rw [hs] at e; cases e; exact g8
      by_cases g2 : f % 2 = 0
      · rw [if_pos g2] at wc
        repeat (walk_at "st")
        exact wv ▸ same 0 wc (by decide)
      · rw [if_neg g2] at wc
        cases ho : find3 (W.A k).rows x with
        | some p =>
          have e := seen_own ho
          rw [hs] at e; cases e
          rw [ho] at wc
          have wf : f = wflag W.A x k := by unfold wflag; rw [ho]
          repeat (walk_at "st")
          walk_at "ca"
          refine put f wc wv wf _ fun σ3 z => ?_
          repeat (walk_at "st")
          exact z
        | none =>
          rw [ho] at wc
          have wf : (7 : Int) = wflag W.A x k := by unfold wflag; rw [ho]
          cases hop : (W.A k).op with
          | true =>
            rw [hop] at wc dg
            repeat (walk_at "st")
            walk_at "ca"
            refine put 7 wc wv wf _ fun σ3 z => ?_
            repeat (walk_at "st")
            exact z
          | false =>
            rw [hop] at wc dg
            repeat (walk_at "st")
            exact wv ▸ same 0 wc (by decide)
end
section
set_option linter.unusedSimpArgs false
set_option maxHeartbeats 4000000
set_option maxRecDepth 10000
structure BoxOk (σ : H) (b : Addr) : Prop where
  ex : ∃ ib ns s, σ.lst 11 b = [.ref (.lst 12) ib, .int s] ∧ σ.lst 12 ib = (ns : List Int).map .int ∧ ns.length ≤ 100 ∧ 0 ≤ s ∧ s < 1000003
structure FrK (σ σ' : H) : Prop where
  nxt : σ'.nxt = σ.nxt
  fld : σ'.fld = σ.fld
  lst : ∀ k, k ≠ 11 → k ≠ 12 → σ'.lst k = σ.lst k
  dS : σ'.dS = σ.dS
  dI : σ'.dI = σ.dI
  dT : σ'.dT = σ.dT
theorem FrK.refl (σ : H) : FrK σ σ := ⟨rfl, rfl, fun _ _ _ => rfl, rfl, rfl, rfl⟩
theorem FrK.trans {a b c : H} (x : FrK a b) (y : FrK b c) : FrK a c := ⟨y.nxt.trans x.nxt, y.fld.trans x.fld, fun k h h' => (y.lst k h h').trans (x.lst k h h'), y.dS.trans x.dS, y.dI.trans x.dI, y.dT.trans x.dT⟩
theorem FrK.setL {σ : H} {k : Nat} (hk : k = 11 ∨ k = 12) {a : Addr} {l : List V} : FrK σ (σ.setL k a l) :=
  ⟨rfl, rfl, fun k' h1 h2 => setL_kl fun e => hk.elim (fun q => h1 (e.trans q)) fun q => h2 (e.trans q), rfl, rfl, rfl⟩
theorem fmod_bound {a b : Int} (h : 0 < b) : 0 ≤ a.fmod b ∧ a.fmod b < b := ⟨Int.fmod_nonneg_of_pos a h, Int.fmod_lt_of_pos a h⟩
theorem sp_take {σ : H} {b : Addr} (h : BoxOk σ b) {lim : Int} (hl : 0 < lim) {Q : V → H → Prop} (q : ∀ σ' r, FrK σ σ' → BoxOk σ' b → 0 ≤ r → r < lim → Q (.int r) σ') : F_law_take [.ref (.lst 11) b, .int lim] σ Q := by
  obtain ⟨ib, ns, s, e1, e2, e3, s0, s1⟩ := h.ex
  have hne : lim ≠ 0 := by omega
  refine q_def rfl ?_
  have v0 : ∀ {ls : Ls}, ls[0]? = some (some (.ref (.lst 11) b)) → Ev (pSub (pV 0) (pK (.int 0))) ls σ (.ref (.lst 12) ib) := fun h => Ev.subL (Ev.var h) Ev.con (by decide) (by rw [e1]; rfl)
  cases ns with
  | cons n ns =>
    rw [List.length_cons] at e3
    obtain ⟨f1, f2⟩ := fmod_bound (a := n) hl
    have el : (σ.lst 12 ib).length = ns.length + 1 := by rw [e2, List.length_map, List.length_cons]
    refine q_ift (Et.gt (Ev.len (v0 rfl) (by rw [el]; exact pc1)) Ev.con (decide_eq_true (by rw [el]; omega))) (q_cons (q_retFC (e_bin (e_pop0 (v0 rfl) (by rw [el]; exact pc1) e2 (e_val (Ev.var rfl) (k_mod hne ?_))))))
    exact q _ _ (FrK.setL (.inr rfl)) ⟨ib, ns, s, e1, setL_at, by exact pc9, s0, s1⟩ f1 f2
  | nil =>
    obtain ⟨m1, m2⟩ := fmod_bound (a := s * 4093 + 12289) (b := 1000003) (by decide)
    have g1 : ((σ.setL 11 b [.ref (.lst 12) ib, .int ((s * 4093 + 12289).fmod 1000003)]).lst 11 b) = [.ref (.lst 12) ib, .int ((s * 4093 + 12289).fmod 1000003)] := setL_at
    obtain ⟨f1, f2⟩ := fmod_bound (a := ((s * 4093 + 12289).fmod 1000003).fdiv 8) hl
    have fin := q (σ.setL 11 b [.ref (.lst 12) ib, .int ((s * 4093 + 12289).fmod 1000003)]) _ (FrK.setL (.inl rfl)) ⟨ib, [], _, g1, e2, by decide, m1, m2⟩ f1 f2
    refine q_iff (Et.gt (Ev.len (v0 rfl) (by rw [e2]; decide)) Ev.con (decide_eq_false (by rw [e2]; decide))) (q_nil (q_putL (Ev.mod (Ev.add (Ev.mul (Ev.subL (w := .int s) (Ev.var rfl) Ev.con (by decide) (by rw [e1]; rfl)) Ev.con ⟨s0, by exact pc12, by decide, by decide⟩) Ev.con) Ev.con (by decide)) (Ev.var rfl) Ev.con ⟨by decide, by decide, by rw [e1]; exact Nat.le_refl _⟩ ?_))
    rw [e1]
    exact q_retF (Ev.mod (Ev.div (Ev.subL (w := .int ((s * 4093 + 12289).fmod 1000003)) (Ev.var rfl) Ev.con (by decide) (by rw [setL_at]; rfl)) Ev.con ⟨m1, by exact pc12, by decide, by decide⟩) (Ev.var rfl) hne) fin
noncomputable abbrev sShapes : Str := Str.ofString "shapes"
noncomputable abbrev sLost : Str := Str.ofString "lost"
theorem str_sl : sShapes ≠ sLost := by decide +kernel
noncomputable def noteL (L : Addr) (lost : Bool) : List (Str × V) := [(sShapes, .ref (.lst 10) L), (sLost, .bool lost)]
structure NoOk (σ : H) (nt : Addr) (nums : List Int) (lost : Bool) : Prop where
  ex : ∃ L, (σ.dS 3 nt).1 = noteL L lost ∧ L < σ.nxt ∧ σ.lst 10 L = nums.map .int
theorem dg_shapes {L : Addr} {lost : Bool} : dget (noteL L lost) sShapes = some (.ref (.lst 10) L) := dget_hd
theorem dg_lost {L : Addr} {lost : Bool} : dget (noteL L lost) sLost = some (.bool lost) := (dget_tl str_sl).trans dget_hd
theorem dput2a {K α : Type} [DecidableEq K] {a b : K} {u v w : α} (h : a ≠ b) : dput [(a, u), (b, v)] a w = [(a, w), (b, v)] := by unfold dput; simp [Ne.symm h]
theorem dput2b {K α : Type} [DecidableEq K] {a b : K} {u v w : α} (h : a ≠ b) : dput [(a, u), (b, v)] b w = [(a, u), (b, w)] := by unfold dput; simp [h]
theorem dp_lost {L : Addr} {lost l' : Bool} : dput (noteL L lost) sLost (.bool l') = noteL L l' := dput2b str_sl
theorem dp_shapes {L L' : Addr} {lost : Bool} : dput (noteL L lost) sShapes (.ref (.lst 10) L') = noteL L' lost := dput2a str_sl
theorem NoOk.mono {σ σ' : H} {nt : Addr} {nums : List Int} {lost : Bool} (h : NoOk σ nt nums lost) (hd : σ'.dS 3 nt = σ.dS 3 nt) (hl : ∀ a, a < σ.nxt → σ'.lst 10 a = σ.lst 10 a) (hn : σ.nxt ≤ σ'.nxt) : NoOk σ' nt nums lost := by
  obtain ⟨L, a, b, c⟩ := h.ex
  exact ⟨L, by rw [hd]; exact a, Nat.lt_of_lt_of_le b hn, by rw [hl L b]; exact c⟩
noncomputable def keptN (nums : List Int) (n : Int) : List Int := nums.filter fun o => decide (o ≠ n)
noncomputable def learnN (nums : List Int) (lost : Bool) (lim n : Int) : List Int × Bool :=
  if lost then (nums, lost) else if lim ≤ ((keptN nums n).length : Int) then ([], true) else (keptN nums n ++ [n], false)
theorem keptN_len {nums : List Int} {n : Int} : (keptN nums n).length ≤ nums.length := List.length_filter_le _ _
structure FrN (σ σ' : H) (nt : Addr) : Prop where
  nxt : σ.nxt ≤ σ'.nxt
  fld : σ'.fld = σ.fld
  lst : ∀ k, k ≠ 13 → k ≠ 10 → σ'.lst k = σ.lst k
  l10 : ∀ a, a < σ.nxt → σ'.lst 10 a = σ.lst 10 a
  dS : ∀ k, k ≠ 3 → σ'.dS k = σ.dS k
  d3 : ∀ a, a ≠ nt → σ'.dS 3 a = σ.dS 3 a
  dI : σ'.dI = σ.dI
  dT : σ'.dT = σ.dT
theorem FrN.refl (σ : H) (nt : Addr) : FrN σ σ nt := ⟨Nat.le_refl _, rfl, fun _ _ _ => rfl, fun _ _ => rfl, fun _ _ => rfl, fun _ _ => rfl, rfl, rfl⟩
theorem FrN.trans {a b c : H} {nt : Addr} (x : FrN a b nt) (y : FrN b c nt) : FrN a c nt :=
  ⟨Nat.le_trans x.nxt y.nxt, y.fld.trans x.fld, fun k h h' => (y.lst k h h').trans (x.lst k h h'), fun p h => (y.l10 p (Nat.lt_of_lt_of_le h x.nxt)).trans (x.l10 p h), fun k h => (y.dS k h).trans (x.dS k h), fun p h => (y.d3 p h).trans (x.d3 p h), y.dI.trans x.dI, y.dT.trans x.dT⟩
theorem FrN.newL {σ : H} {nt : Addr} {k : Nat} (hk : k = 13 ∨ k = 10) {a : Addr} {l : List V} (ha : σ.nxt ≤ a) : FrN σ (σ.newL k a l) nt :=
  ⟨Nat.le_succ_of_le ha, rfl, fun k' h1 h2 => newL_kl fun e => hk.elim (fun q => h1 (e.trans q)) fun q => h2 (e.trans q), fun b hb => newL_a (Nat.ne_of_lt (Nat.lt_of_lt_of_le hb ha)), fun _ _ => rfl, fun _ _ => rfl, rfl, rfl⟩
theorem FrN.resL {σ : H} {nt : Addr} {k : Nat} (hk : k = 13 ∨ k = 10) {a : Addr} {l : List V} (ha : σ.nxt ≤ a) : FrN σ ((σ.res a).setL k a l) nt := FrN.newL hk ha
theorem FrN.setS {σ : H} {nt : Addr} {l : List (Str × V)} {e : Nat} : FrN σ (σ.setS 3 nt l e) nt :=
  ⟨Nat.le_refl _, rfl, fun _ _ _ => rfl, fun _ _ => rfl, fun k hk => setS_kl hk, fun b hb => setS_a hb, rfl, rfl⟩
theorem note_loop {L : Addr} {n : Int} : ∀ (r pre : List Int) (σ : H) (acc : List V) (l1 : Option V) (Q : List V → H → Prop), σ.lst 10 L = (pre ++ r).map .int → acc.length + r.length ≤ 900 → Q (acc ++ (keptN r n).map .int) σ →
    compL 1 (aVar 1) (tCmp fNe (pV 1) (pV 0)) (pV 1) (r.map .int) (.lst 10 L pre.length) [some (.int n), l1] acc σ Q := by
  intro r
  induction r with
  | nil => intro pre σ acc l1 Q h2 h4 q; rw [show acc ++ (keptN [] n).map V.int = acc from List.append_nil acc] at q; exact q
  | cons y r ih =>
    intro pre σ acc l1 Q h2 h4 q
    rw [List.length_cons] at h4
    have adv : (IK.lst 10 L pre.length).adv.items σ = r.map .int := by
      show (σ.lst 10 L).drop (pre.length + 1) = _
      rw [h2, drop_mid]
    have ih := fun acc => ih (pre ++ [y]) σ acc (some (.int y)) Q (by rw [List.append_assoc]; exact h2)
    rw [List.length_append] at ih
    unfold keptN at q
    by_cases e : y = n
    · rw [List.filter_cons_of_neg (by exact fun z => of_decide_eq_true z e)] at q
      exact cl_var0 rfl (by walk_at "ev") adv trivial (ih acc (by exact pb3) q)
    · rw [List.filter_cons_of_pos (by exact decide_eq_true e)] at q
      exact cl_var rfl (by walk_at "ev") (by walk_at "ev") (by exact pc9) adv trivial (ih (acc ++ [.int y]) (by rw [List.length_append, List.length_singleton]; exact pb2) (by rw [List.append_assoc]; exact q))
theorem sp_llearnt {σ : H} {nt : Addr} {nums : List Int} {lost : Bool} (h : NoOk σ nt nums lost) (hl : nums.length ≤ 900) {n lim : Int} {Q : V → H → Prop} (q : ∀ σ', FrN σ σ' nt → NoOk σ' nt (learnN nums lost lim n).1 (learnN nums lost lim n).2 → Q .none σ') : F_law_learnt [.ref (.dS 3) nt, .int n, .int lim] σ Q := by
  obtain ⟨L, e1, e2, e3⟩ := h.ex
  have hk := keptN_len (nums := nums) (n := n)
  have dl : dget (σ.dS 3 nt).1 sLost = _ := e1 ▸ dg_lost
  have ds : dget (σ.dS 3 nt).1 sShapes = _ := e1 ▸ dg_shapes
  have nl : ∀ l, (noteL L l).length ≤ 1000 := fun l => Nat.le_of_ble_eq_true rfl
  refine q_def rfl ?_
  cases lost with
  | true =>
    repeat (walk_at "st")
    exact q σ (.refl _ _) h
  | false =>
    repeat (walk_at "st")
    refine q_setC (e_compL (by walk_at "ev") (fun i hi => by cases List.mem_singleton.mp hi; exact ⟨_, rfl⟩) fun a ha => ?_)
    rw [e3, List.drop_zero]
    refine note_loop (L := L) (n := n) nums [] (σ.res a) [] none _ e3 (by rw [List.length_nil]; exact pc8) ⟨Nat.lt_succ_self _, ?_⟩
    rw [List.nil_append]
    have F1 : FrN σ ((σ.res a).setL 10 a ((keptN nums n).map .int)) nt := FrN.resL (.inr rfl) ha
    have d1 : (((σ.res a).setL 10 a ((keptN nums n).map .int)).dS 3 nt).1 = noteL L false := e1
    have l1 : ((σ.res a).setL 10 a ((keptN nums n).map .int)).lst 10 a = (keptN nums n).map .int := setL_at
    have n1 : a < ((σ.res a).setL 10 a ((keptN nums n).map .int)).nxt := Nat.lt_succ_self _
    generalize (σ.res a).setL 10 a ((keptN nums n).map .int) = τ at F1 d1 l1 n1 ⊢
    have gl : (τ.lst 10 a).length = (keptN nums n).length := by rw [l1, List.length_map]
    by_cases z : lim ≤ ((keptN nums n).length : Int)
    · have : learnN nums false lim n = ([], true) := by unfold learnN; rw [if_neg (fun z => nomatch z), if_pos z]
      rw [this] at q
      refine q_putS (Ev.cast (Ev.cge (Ev.len (by walk_at "ev") (by rw [gl]; exact pd8)) (by walk_at "ev")) (w := .bool true) (by rw [gl, decide_eq_true z])) (by walk_at "ev") Ev.con (by rw [d1]; exact nl _) fun e => ?_
      rw [d1, dp_lost]
      have F2 := F1.trans (FrN.setS (l := noteL L true) (e := e))
      refine q_putC (e_ift (Et.val (Ev.subS (by walk_at "ev") Ev.con (by rw [setS_at]; exact dg_lost))) (e_list El.nil (Nat.zero_le _) fun b hb => k_putS (by walk_at "ev") Ev.con (by rw [rd_newL_dS, setS_at]; exact nl _) fun e' => q_endF ?_))
      rw [rd_newL_dS, setS_at, dp_shapes]
      have hb' : σ.nxt ≤ b := Nat.le_trans F2.nxt hb
      exact q _ ((F2.trans (FrN.newL (l := []) (.inr rfl) hb)).trans FrN.setS) ⟨b, congrArg Prod.fst setS_at, Nat.lt_succ_self _, newL_at⟩
    · have : learnN nums false lim n = (keptN nums n ++ [n], false) := by unfold learnN; rw [if_neg (fun z => nomatch z), if_neg z]
      rw [this] at q
      refine q_putS (Ev.cast (Ev.cge (Ev.len (by walk_at "ev") (by rw [gl]; exact pd8)) (by walk_at "ev")) (w := .bool false) (by rw [gl, decide_eq_false z])) (by walk_at "ev") Ev.con (by rw [d1]; exact nl _) fun e => ?_
      rw [d1, dp_lost]
      have F2 := F1.trans (FrN.setS (l := noteL L false) (e := e))
      refine q_putC (e_iff (Et.val (Ev.subS (by walk_at "ev") Ev.con (by rw [setS_at]; exact dg_lost))) (e_bin (e_val (by walk_at "ev") (e_list (by walk_at "ev") (Nat.le_of_ble_eq_true rfl) fun b hb => k_addL ?_ fun c hc => k_putS (by walk_at "ev") Ev.con (by rw [rd_newL_dS, rd_newL_dS, setS_at]; exact nl _) fun e' => q_endF ?_))))
      · rw [newL_at, newL_k (by decide), show (τ.setS 3 nt (noteL L false) e).lst 10 a = τ.lst 10 a from rfl, gl, List.length_singleton]
        omega
      · rw [rd_newL_dS, rd_newL_dS, setS_at, dp_shapes, newL_at, newL_k (by decide), show (τ.setS 3 nt (noteL L false) e).lst 10 a = _ from l1]
        exact q _ (((F2.trans (FrN.newL (l := [.int n]) (.inl rfl) hb)).trans (FrN.newL (l := (keptN nums n).map .int ++ [.int n]) (.inr rfl) hc)).trans FrN.setS) ⟨c, congrArg Prod.fst setS_at, Nat.lt_succ_self _, newL_at.trans (List.map_append (f := V.int) (l₁ := keptN nums n) (l₂ := [n])).symm⟩
noncomputable def numE (S : SM) (e : En) : Int := numOf S e.sa
theorem learnE_N {S : SM} {es : List En} {lost : Bool} {lim : Int} {e : En} : learnN (es.map (numE S)) lost lim (numE S e) = ((learnE S es lost lim e).1.map (numE S), (learnE S es lost lim e).2) := by
  have hk : keptN (es.map (numE S)) (numE S e) = (keptE S es e).map (numE S) := by
    unfold keptN keptE; rw [List.filter_map]; rfl
  unfold learnN learnE
  rw [hk, List.length_map]
  cases lost with
  | true => rfl
  | false =>
    rw [if_neg Bool.false_ne_true, if_neg Bool.false_ne_true]
    by_cases z : lim ≤ ((keptE S es e).length : Int)
    · rw [if_pos z, if_pos z]; rfl
    · rw [if_neg z, if_neg z, List.map_append]; rfl
theorem keeps_loop {σ : H} {W : Wd} (h : BI σ W) {x : Str} {E : Addr} : ∀ (es pre : List En) (acc : List V) (l0 : Option V) (Q : List V → H → Prop), (∀ e ∈ es, EnOk σ W.S x e) → σ.lst 4 E = (pre ++ es).map enV → acc.length + es.length ≤ 900 → Q (acc ++ (es.map (numE W.S)).map .int) σ →
    compL 0 (aVar 0) tTrue (pF (pF (pV 0) 14) 0) (es.map enV) (.lst 4 E pre.length) [l0] acc σ Q := by
  intro es
  induction es with
  | nil => intro pre acc l0 Q he hl hn q; rw [show acc ++ (List.map (numE W.S) []).map V.int = acc from List.append_nil acc] at q; exact q
  | cons e es ih =>
    intro pre acc l0 Q he hl hn q
    rw [List.length_cons] at hn
    have Ok := he e (.head _)
    obtain ⟨i, hi⟩ := Ok.ch.sh
    have n1 : numE W.S e = i.num := by unfold numE numOf; rw [hi]
    have f14 := Ok.f14
    have f0 := (h.si.sh _ _ hi).f0
    have ih := ih (pre ++ [e]) (acc ++ [.int i.num]) (some (enV e)) Q (fun e' h' => he e' (.tail _ h')) (by rw [List.append_assoc]; exact hl) (by rw [List.length_append, List.length_singleton]; exact pb2) (by rw [List.map_cons, List.map_cons, n1] at q; rw [List.append_assoc]; exact q)
    rw [List.length_append] at ih
    refine cl_var rfl Et.tru (by walk_at "ev") (by exact pc9) ?_ trivial ih
    show (σ.lst 4 E).drop (pre.length + 1) = _
    rw [hl, drop_mid]
theorem repr_pl (b : Bool) : (V.str (if b = true then Str.ofString "True" else Str.ofString "False")).pl 4 = true := by cases b <;> exact of_decide_eq_true (by decide +kernel)
theorem sp_keeps {σ : H} {W : Wd} (h : BI σ W) {c : Nat} {s : Addr} {x : Str} {lim : Int} {es : List En} {lost : Bool} {hi mi : Int} (hs : SiE σ W.S c s x lim es lost hi mi) {nt : Addr} (hn : NoOk σ nt (es.map (numE W.S)) lost) {Q : V → H → Prop} (q : ∀ σ', FrN σ σ' nt → σ'.dS = σ.dS → Q (.bool true) σ') : F_law_keeps [.ref (.inst c) s, .ref (.dS 3) nt] σ Q := by
  obtain ⟨E, e1, e2, e3⟩ := hs.ok.f23
  obtain ⟨L, d1, d2, d3⟩ := hn.ex
  have h0 := hs.len
  have h3 := hs.l3
  have f24 := hs.ok.f24
  have B1 : ∀ {a}, σ.nxt ≤ a → BI (σ.res a) W := fun ha => h.eqv (fun _ _ => rfl) rfl rfl rfl rfl rfl (Nat.le_succ_of_le ha)
  have pl : ((es.map (numE W.S)).map V.int).all (V.pl 4) = true := ints_pl fun v hv => by
    obtain ⟨i, -, rfl⟩ := List.mem_map.mp hv; exact ⟨i, rfl⟩
  refine q_def rfl (q_setC (e_compL (by walk_at "ev") (fun _ h => nomatch h) fun a ha => ?_))
  rw [e3, List.drop_zero]
  refine keeps_loop (B1 ha) (E := E) es [] [] none _ (fun e he => (hs.en e he).mono (.refl _) (Nat.le_succ_of_le ha) (fun _ _ => rfl) fun _ _ => rfl) e3 (by rw [List.length_nil]; exact pd7) ⟨Nat.lt_succ_self _, ?_⟩
  rw [List.nil_append]
  have hL : L ≠ a := Nat.ne_of_lt (Nat.lt_of_lt_of_le d2 ha)
  have l1 : ((σ.res a).setL 10 a ((es.map (numE W.S)).map V.int)).lst 10 a = _ := setL_at
  have l2 : ((σ.res a).setL 10 a ((es.map (numE W.S)).map V.int)).lst 10 L = _ := (setL_a hL).trans d3
  have dl : dget (((σ.res a).setL 10 a ((es.map (numE W.S)).map V.int)).dS 3 nt).1 sLost = _ := (congrArg (fun d => dget d sLost) d1).trans dg_lost
  have ds : dget (((σ.res a).setL 10 a ((es.map (numE W.S)).map V.int)).dS 3 nt).1 sShapes = _ := (congrArg (fun d => dget d sShapes) d1).trans dg_shapes
  refine q_retF (Ev.andt (Ev.cast (Ev.ceqL (by walk_at "ev") (Ev.subS (by walk_at "ev") Ev.con ds) (l1.symm ▸ pl) (l2.symm ▸ pl)) (by rw [l1, l2, decide_eq_true rfl])) (Ev.cast (Ev.ceq (Ev.repr (by walk_at "ev")) (Ev.repr (Ev.subS (by walk_at "ev") Ev.con dl)) (repr_pl _) (repr_pl _)) (congrArg V.bool (decide_eq_true rfl)))) ?_
  exact q _ (FrN.resL (nt := nt) (k := 10) (l := (es.map (numE W.S)).map .int) (.inr rfl) ha) rfl
theorem r3_pl {R : R3} (h : GR3 R) : (R.map r3V).all (V.pl 4) = true := by
  rw [List.all_eq_true]
  intro v hv
  obtain ⟨y, hy, rfl⟩ := List.mem_map.mp hv
  have h1 := abc_strOk (h.1.2 _ (List.mem_map.mpr ⟨y, hy, rfl⟩)).1
  have h2 := (h.2 y hy).1
  show (PyData.strOk y.1 && (true && V.pl 3 y.2.2)) = true
  rw [h1, h2]; rfl
theorem zip_map {f g : Nat → V} : ∀ {l : List Nat}, zipV (l.map f) (l.map g) = l.map fun k => .p2 (f k) (g k)
  | [] => rfl
  | a :: l => congrArg (V.p2 (f a) (g a) :: ·) (zip_map (l := l))
noncomputable abbrev arB : S1 := sCons (sIf (tOr [(tCmp fNe (pMeth [(2, F_Store_rows)] (pV 3) eNil) (pSub (pV 2) (pK (.str (Str.ofString "rows"))))), (tCmp fNe (pBi fRepr (pMeth [(2, F_Store_can_grow)] (pV 3) eNil)) (pBi fRepr (pSub (pV 2) (pK (.str (Str.ofString "open"))))))]) (sCons (sRet (pK (.bool false))) sNil) sNil) sNil
theorem ar_loop {W : Wd} {L : Lw} : ∀ (r pre : List Nat) (σ : H) (l2 l3 : Option V) (Q : Fl → Ls → H → Prop), pre ++ r = List.range W.m → LI σ W L → BI σ W →
    (∀ σ' l2 l3, FrB σ σ' → BI σ' W → LI σ' W L → Q .next [some (.ref (.lst 5) L.owA), some (.ref (.lst 6) L.stA), l2, l3] σ') →
    forL (aTup 2 (asCons (aVar 2) (asCons (aVar 3) asNil))) arB (r.map fun k => V.p2 (.ref (.dS 2) (L.ow k)) (stv (W.st k))) (.zip 5 L.owA 6 L.stA pre.length) [some (.ref (.lst 5) L.owA), some (.ref (.lst 6) L.stA), l2, l3] σ Q := by
  intro r
  induction r with
  | nil => intro pre σ l2 l3 Q e h hb q; exact q σ l2 l3 (.refl _) hb h
  | cons k r ih =>
    intro pre σ l2 l3 Q e h hb q
    have hk : k < W.m := List.mem_range.mp (e ▸ List.mem_append_right _ (.head _))
    have hg := (hb.st k hk).good
    refine f_tup2 (q_ifC (d_or (d_cmp (e_meth (by walk_at "ev") rfl El.nil (sp_srows hb hk fun σ1 c b1 F1 hc hc1 hl => ?_)))))
    have h1 : LI σ1 W L := h.eqv (F1.lst 5 (by decide)) (F1.lst 6 (by decide)) (F1.lst 7 (by decide)) (F1.dS 2 (by decide)) F1.nxt
    obtain ⟨rl, d, l, -⟩ := h1.ow k hk
    have dr : dget (σ1.dS 2 (L.ow k)).1 sRows = _ := d ▸ dg_rows
    have dop : dget (σ1.dS 2 (L.ow k)).1 sOpen = _ := d ▸ dg_open
    refine e_val (Ev.subS (by walk_at "ev") Ev.con dr) (k_neL (by rw [hl]; exact r3_pl hg) (by rw [l]; exact r3_pl hg) ?_)
    rw [hl, l, nb_f rfl]
    refine b_f (d_or (d_cmp (e_bi (e_meth (by walk_at "ev") rfl El.nil (sp_can_grow b1 hk (k_repr (e_val (Ev.repr (Ev.subS (by walk_at "ev") Ev.con dop)) (k_ne (repr_pl _) (repr_pl _) ?_))))))))
    rw [nb_f rfl]
    refine b_f (d_o0 (k_iff (q_nil (f_end ?_ trivial ?_))))
    · show zipV ((σ1.lst 5 L.owA).drop (pre.length + 1)) ((σ1.lst 6 L.stA).drop (pre.length + 1)) = _
      rw [h1.owns, h1.stores, ← e, drop_mid, drop_mid, zip_map]
    · have := ih (pre ++ [k]) σ1 (some (.ref (.dS 2) (L.ow k))) (some (stv (W.st k))) Q (by rw [List.append_assoc]; exact e) h1 b1 fun σ2 m2 m3 F2 b2 h2 => q σ2 m2 m3 (F1.toFrB.trans F2) b2 h2
      rw [List.length_append] at this
      exact this
theorem sp_all_right {σ : H} {W : Wd} {L : Lw} (h : LI σ W L) (hb : BI σ W) {Q : V → H → Prop} (q : ∀ σ', FrB σ σ' → BI σ' W → LI σ' W L → Q (.bool true) σ') : F_law_all_right [.ref (.lst 5) L.owA, .ref (.lst 6) L.stA] σ Q := by
  refine q_def rfl (q_forZ (by walk_at "ev") (by walk_at "ev") ?_)
  rw [List.drop_zero, List.drop_zero, h.owns, h.stores, zip_map]
  refine ar_loop (List.range W.m) [] σ none none _ rfl h hb fun σ' l2 l3 F b l => ?_
  repeat (walk_at "st")
  exact q σ' F b l
end
section
set_option linter.unusedSimpArgs false
set_option maxHeartbeats 4000000
set_option maxRecDepth 10000
structure FrG (σ σ' : H) (c : Nat) (s nt : Addr) : Prop where
  nxt : σ.nxt ≤ σ'.nxt
  fld : ∀ c' a, 4 ≤ c' → ¬ (c' = c ∧ a = s) → σ'.fld c' a = σ.fld c' a
  f3 : ∀ a, a < σ.nxt → σ'.fld 3 a = σ.fld 3 a
  l3 : ∀ a, a < σ.nxt → σ'.lst 3 a = σ.lst 3 a
  l4 : ∀ a, a < σ.nxt → σ'.lst 4 a = σ.lst 4 a
  l10 : ∀ a, a < σ.nxt → σ'.lst 10 a = σ.lst 10 a
  lst : ∀ k, k = 5 ∨ k = 6 ∨ k = 8 ∨ k = 9 ∨ k = 11 ∨ k = 12 → σ'.lst k = σ.lst k
  d3 : ∀ a, a ≠ nt → σ'.dS 3 a = σ.dS 3 a
theorem FrG.trans {a b d : H} {c : Nat} {s nt : Addr} (x : FrG a b c s nt) (y : FrG b d c s nt) : FrG a d c s nt :=
  ⟨Nat.le_trans x.nxt y.nxt, fun c h1 h2 h3 => (y.fld c h1 h2 h3).trans (x.fld c h1 h2 h3), fun p h => (y.f3 p (Nat.lt_of_lt_of_le h x.nxt)).trans (x.f3 p h), fun p h => (y.l3 p (Nat.lt_of_lt_of_le h x.nxt)).trans (x.l3 p h), fun p h => (y.l4 p (Nat.lt_of_lt_of_le h x.nxt)).trans (x.l4 p h), fun p h => (y.l10 p (Nat.lt_of_lt_of_le h x.nxt)).trans (x.l10 p h), fun k h => (y.lst k h).trans (x.lst k h), fun p h => (y.d3 p h).trans (x.d3 p h)⟩
theorem kx {k : Nat} (hk : k = 5 ∨ k = 6 ∨ k = 8 ∨ k = 9 ∨ k = 11 ∨ k = 12) : k ≠ 13 ∧ k ≠ 7 ∧ k ≠ 10 ∧ 5 ≤ k := by
  rcases hk with rfl | rfl | rfl | rfl | rfl | rfl <;> decide
theorem FrX.g {σ σ' : H} (h : FrX σ σ') {c : Nat} {s nt : Addr} : FrG σ σ' c s nt :=
  ⟨h.nxt, fun _ _ _ _ => by rw [h.fld], fun _ _ => by rw [h.fld], fun _ _ => by rw [h.lst 3 (by decide)], fun _ _ => by rw [h.lst 4 (by decide)], fun _ _ => by rw [h.lst 10 (by decide)], fun k hk => h.lst k (kx hk).1, fun _ _ => by rw [h.dS 3 (by decide)]⟩
theorem FrY.g {σ σ' : H} (h : FrY σ σ') {c : Nat} {s nt : Addr} : FrG σ σ' c s nt :=
  ⟨h.nxt, fun _ _ _ _ => by rw [h.fld], fun _ _ => by rw [h.fld], fun _ _ => by rw [h.lst 3 (by decide) (by decide)], fun _ _ => by rw [h.lst 4 (by decide) (by decide)], fun _ _ => by rw [h.lst 10 (by decide) (by decide)], fun k hk => h.lst k (kx hk).1 (kx hk).2.1, fun _ _ => by rw [h.dS 3 (by decide) (by decide)]⟩
theorem FrT.g {σ σ' : H} {c : Nat} {s nt : Addr} (h : FrT σ σ' c s) : FrG σ σ' c s nt :=
  ⟨h.nxt, h.fld, h.f3, h.l3, h.l4, fun _ _ => by rw [h.lst 10 (by decide) (by decide)], fun k hk => h.lst k (kx hk).2.2.2 (kx hk).1, fun _ _ => by rw [h.dS 3 (by decide)]⟩
theorem FrN.g {σ σ' : H} {c : Nat} {s nt : Addr} (h : FrN σ σ' nt) : FrG σ σ' c s nt :=
  ⟨h.nxt, fun _ _ _ _ => by rw [h.fld], fun _ _ => by rw [h.fld], fun _ _ => by rw [h.lst 3 (by decide) (by decide)], fun _ _ => by rw [h.lst 4 (by decide) (by decide)], h.l10, fun k hk => h.lst k (kx hk).1 (kx hk).2.2.1, h.d3⟩
theorem FrT.li {σ σ' : H} {c : Nat} {s : Addr} (F : FrT σ σ' c s) {W : Wd} {L : Lw} (h : LI σ W L) : LI σ' W L := h.eqv (F.lst 5 (by decide) (by decide)) (F.lst 6 (by decide) (by decide)) (F.lst 7 (by decide) (by decide)) (F.dS 2 (by decide)) F.nxt
theorem FrN.li {σ σ' : H} {nt : Addr} (F : FrN σ σ' nt) {W : Wd} {L : Lw} (h : LI σ W L) : LI σ' W L := h.eqv (F.lst 5 (by decide) (by decide)) (F.lst 6 (by decide) (by decide)) (F.lst 7 (by decide) (by decide)) (F.dS 2 (by decide)) F.nxt
theorem FrN.bi {σ σ' : H} {nt : Addr} (F : FrN σ σ' nt) {W : Wd} (h : BI σ W) : BI σ' W :=
  h.eqv (fun _ _ => by rw [F.fld]) (F.lst 1 (by decide) (by decide)) (F.dS 0 (by decide)) (F.dS 1 (by decide)) (by rw [F.dI]) (by rw [F.dT]) F.nxt
theorem FrN.sie {σ σ' : H} {nt : Addr} (F : FrN σ σ' nt) {S : SM} {c : Nat} {s : Addr} {x : Str} {lim : Int} {es : List En} {lost : Bool} {hi mi : Int} (h : SiE σ S c s x lim es lost hi mi) : SiE σ' S c s x lim es lost hi mi :=
  ⟨h.ok.mono (by rw [F.fld]) F.nxt fun a _ => by rw [F.lst 4 (by decide) (by decide)], fun e he => (h.en e he).mono (.refl _) F.nxt (fun _ _ => by rw [F.fld]) fun _ _ => by rw [F.lst 3 (by decide) (by decide)], h.len, h.l3, h.lo⟩
theorem FrN.ws {σ σ' : H} {nt : Addr} (F : FrN σ σ' nt) {S : SM} {x : Str} {es : List En} (w : EnWs σ S x es) : EnWs σ' S x es := fun e he => (w e he).mono (.refl _) (by rw [F.fld])
theorem FrX.no {σ σ' : H} (F : FrX σ σ') {nt : Addr} {nums : List Int} {lost : Bool} (h : NoOk σ nt nums lost) : NoOk σ' nt nums lost := h.mono (by rw [F.dS 3 (by decide)]) (fun _ _ => by rw [F.lst 10 (by decide)]) F.nxt
theorem FrY.no {σ σ' : H} (F : FrY σ σ') {nt : Addr} {nums : List Int} {lost : Bool} (h : NoOk σ nt nums lost) : NoOk σ' nt nums lost := h.mono (by rw [F.dS 3 (by decide) (by decide)]) (fun _ _ => by rw [F.lst 10 (by decide) (by decide)]) F.nxt
theorem FrT.no {σ σ' : H} {c : Nat} {s : Addr} (F : FrT σ σ' c s) {nt : Addr} {nums : List Int} {lost : Bool} (h : NoOk σ nt nums lost) : NoOk σ' nt nums lost := h.mono (by rw [F.dS 3 (by decide)]) (fun _ _ => by rw [F.lst 10 (by decide) (by decide)]) F.nxt
theorem fv_pl {σ : H} {W : Wd} (h : BI σ W) {k : Nat} (hk : k < W.m) {x : Str} : (fvV (seen W.A x k)).pl 4 = true := by
  cases hs : seen W.A x k with
  | none => rfl
  | some p =>
    obtain ⟨f, v⟩ := p
    have := (seen_good h k hk hs).2.2.1
    show (true && V.pl 3 v) = true
    rw [this]; rfl
theorem learnE_lost {S : SM} {es : List En} {lim : Int} {e : En} : learnE S es true lim e = (es, true) := rfl
theorem learnE_in {S : SM} {es es' : List En} {lost : Bool} {lim : Int} {e : En} (h : (es', false) = learnE S es lost lim e) : e ∈ es' := by
  unfold learnE at h
  split at h
  · rename_i z; cases h; cases z
  · split at h
    · cases h
    · cases h; exact List.mem_append_right _ (.head _)
noncomputable abbrev rrK : S1 := (sCons (sSet 9 (pF (pV 3) 25)) (sCons (sIf (tOr [(tNot (tVal (pCall F_law_keeps (eCons (pV 3) (eCons (pV 4) eNil))))), (tCmp fNe (pMeth [(4, F_ReadSite_read)] (pV 3) (eCons (pSub (pV 1) (pV 2)) eNil)) (pV 5)), (tCmp fNe (pBin fAdd (pF (pV 3) 25) (pF (pV 3) 26)) (pBin fAdd (pV 6) (pK (.int 2))))]) (sCons (sRet (pK (.bool false))) sNil) sNil) (sCons (sRet (pOr (pSub (pV 4) (pK (.str (Str.ofString "lost")))) (pOr (pNot (pV 8)) (pCmp fEq (pF (pV 3) 25) (pBin fAdd (pV 9) (pK (.int 1))))))) sNil)))
theorem rr_end {σ : H} {s nt : Addr} {l0 l1 l2 l5 l6 l7 : Option V} {sh lost : Bool} {hi hi2 : Int} {L : Addr} (d : (σ.dS 3 nt).1 = noteL L lost) (f25 : σ.fld 4 s 25 = some (.int hi2)) (hz : lost = false → sh = true → hi2 = hi + 1) {Q : V → H → Prop} (q : Q (.bool true) σ) :
    (sCons (sRet (pOr (pSub (pV 4) (pK (.str (Str.ofString "lost")))) (pOr (pNot (pV 8)) (pCmp fEq (pF (pV 3) 25) (pBin fAdd (pV 9) (pK (.int 1))))))) sNil) [l0, l1, l2, some (.ref (.inst 4) s), some (.ref (.dS 3) nt), l5, l6, l7, some (.bool sh), some (.int hi)] σ (QF Q) := by
  have dl : dget (σ.dS 3 nt).1 sLost = _ := d ▸ dg_lost
  cases lost with
  | true =>
    walk_at "st"
    exact q
  | false =>
    cases sh with
    | false =>
      walk_at "st"
      exact q
    | true =>
      have := hz rfl rfl
      refine q_retF (Ev.orf (by walk_at "ev") (Ev.orf (by walk_at "ev") (Ev.ceqI (by walk_at "ev") (by walk_at "ev") (decide_eq_true this)))) q
theorem rr_rest {σ : H} {W : Wd} {L : Lw} (h : LI σ W L) (hb : BI σ W) {k : Nat} (hk : k < W.m) {s nt : Addr} {x : Str} {lim : Int} {es : List En} {lost : Bool} {hi mi tot : Int} (hs : SiE σ W.S 4 s x lim es lost hi mi) (hn : NoOk σ nt (es.map (numE W.S)) lost) (hcount : hi + mi = tot + 1) (hmust : lost = false → shar W x k = true → ∃ e ∈ es, Hm W k e.sa e.gs) {l7 : Option V} {Q : V → H → Prop}
    (q : ∀ σ' hi' mi', FrG σ σ' 4 s nt → BI σ' W → LI σ' W L → SiE σ' W.S 4 s x lim es lost hi' mi' → NoOk σ' nt (es.map (numE W.S)) lost → Q (.bool true) σ') :
    rrK [some (.ref (.lst 5) L.owA), some (.ref (.lst 6) L.stA), some (.int k), some (.ref (.inst 4) s), some (.ref (.dS 3) nt), some (fvV (seen W.A x k)), some (.int tot), l7, some (.bool (shar W x k)), none] σ (QF Q) := by
  have hpl := fv_pl hb hk (x := x)
  have ki := hb.ki hk
  have f25 := hs.ok.f25
  walk_at "st"
  refine q_ifC (d_or (d_not (d_tval (e_call (by walk_at "ev") (sp_keeps hb hs hn fun σ4 F4 dS4 => b_f ?_)))))
  have h4 := F4.li h
  have b4 := F4.bi hb
  have s4 := F4.sie hs
  have n4 : NoOk σ4 nt (es.map (numE W.S)) lost := hn.mono (by rw [dS4]) F4.l10 F4.nxt
  have sg := h4.sget hk
  refine d_or (d_cmp (e_meth (by walk_at "ev") rfl (by walk_at "ev") (sp_read b4 hk s4 (fun σ5 hex b5 F5 s5 => ?_) (fun σ5 es2 lost2 hno b5 F5 s5 e1 e2 => ?_))))
  · have f25 := s5.ok.f25
    have f26 := s5.ok.f26
    obtain ⟨L5, d5, -⟩ := (F5.no n4).ex
    refine e_val (Ev.var rfl) (k_ne hpl hpl ?_)
    rw [nb_f rfl]
    exact b_f (d_val (Et.of (Et.neI (by walk_at "ev") (by walk_at "ev") (nb_f (by omega))) Et.o0) (k_iff (q_nil (rr_end d5 f25 (fun _ _ => rfl) (q σ5 _ _ (F4.g.trans F5.g) b5 (F5.li h4) s5 (F5.no n4))))))
  · have f25 := s5.ok.f25
    have f26 := s5.ok.f26
    obtain ⟨L5, d5, -⟩ := (F5.no n4).ex
    have same : es2 = es ∧ lost2 = lost := by
      cases hsh : shar W x k with
      | false => exact e1 hsh
      | true =>
        cases lost with
        | false =>
          obtain ⟨e, h1, h2⟩ := hmust rfl hsh
          exact absurd h2 (hno e h1)
        | true =>
          obtain ⟨e, he, -⟩ := e2 hsh
          rw [learnE_lost] at he
          cases he; exact ⟨rfl, rfl⟩
    obtain ⟨rfl, rfl⟩ := same
    refine e_val (Ev.var rfl) (k_ne hpl hpl ?_)
    rw [nb_f rfl]
    refine b_f (d_val (Et.of (Et.neI (by walk_at "ev") (by walk_at "ev") (nb_f (by omega))) Et.o0) (k_iff (q_nil (rr_end d5 f25 (fun hl hsh => ?_) (q σ5 _ _ (F4.g.trans F5.g) b5 (F5.li h4) s5 (F5.no n4))))))
    obtain ⟨e, h1, h2⟩ := hmust hl hsh
    exact absurd h2 (hno e h1)
theorem sp_read_right {σ : H} {W : Wd} {L : Lw} (h : LI σ W L) (hb : BI σ W) {k : Nat} (hk : k < W.m) {s nt : Addr} {x : Str} {lim : Int} {es : List En} {lost : Bool} {hi mi : Int} (hs : SiE σ W.S 4 s x lim es lost hi mi) (hn : NoOk σ nt (es.map (numE W.S)) lost) {Q : V → H → Prop}
    (q : ∀ σ' es' lost' hi' mi', FrG σ σ' 4 s nt → BI σ' W → LI σ' W L → SiE σ' W.S 4 s x lim es' lost' hi' mi' → NoOk σ' nt (es'.map (numE W.S)) lost' → Q (.bool true) σ') :
    F_law_read_right [.ref (.lst 5) L.owA, .ref (.lst 6) L.stA, .int k, .ref (.inst 4) s, .ref (.dS 3) nt] σ Q := by
  have hk9 : (0 : Int) ≤ k ∧ (k : Int) < 1000 := hb.ki hk
  have hpl := fv_pl hb hk (x := x)
  have f3 := hs.ok.f3
  refine q_def rfl (q_swap3C (e_tup (el_cons (e_call (by walk_at "ev") (sp_lseen h hb hk x fun σ1 F1 => ?_)))))
  have h1 := F1.li h
  have b1 := F1.bi hb
  have s1 := F1.sie hs
  have n1 := F1.no hn
  have f3 := s1.ok.f3
  have f25 := s1.ok.f25
  have f26 := s1.ok.f26
  refine el_val (by walk_at "ev") (k_tup3 (k_sw3 ?_))
  walk_at "ca"
  refine sp_lshared h1 b1 hk x fun σ2 F2 => ?_
  have h2 := F2.li h1
  have b2 := F2.bi b1
  have s2 := F2.sie s1
  have n2 := F2.no n1
  have sg := h2.sget hk
  have G2 : FrG σ σ2 4 s nt := (F1.trans F2).g
  clear n1 s1 h1 b1 f25 f26 f3 hn hs h hb
  walk_at "ca"
  refine sp_read b2 hk s2 (fun σ3 hex b3' F3 s3 => ?_) (fun σ3 es2 lost2 hno b3' F3 s3 e1 e2 => ?_)
  · have f26 := s3.ok.f26
    refine e_val (Ev.var rfl) (k_ne hpl hpl ?_)
    rw [nb_f rfl]
    refine k_iff ?_
    repeat (walk_at "st")
    exact rr_rest (F3.li h2) b3' hk s3 (F3.no n2) (by exact pa2) (fun _ _ => hex) fun σ' hi' mi' G => q σ' es lost hi' mi' ((G2.trans F3.g).trans G)
  · have f26 := s3.ok.f26
    refine e_val (Ev.var rfl) (k_ne hpl hpl ?_)
    rw [nb_f rfl]
    refine k_iff ?_
    cases hsh : shar W x k with
    | false =>
      obtain ⟨rfl, rfl⟩ := e1 hsh
      repeat (walk_at "st")
      have := rr_rest (F3.li h2) b3' hk s3 (F3.no n2) (tot := hi + mi) (l7 := some (.int mi)) (Q := Q) (by exact pa3) (fun _ z => by rw [hsh] at z; cases z) fun σ' hi' mi' G => q σ' es2 lost2 hi' mi' ((G2.trans F3.g).trans G)
      rw [hsh] at this; exact this
    | true =>
      obtain ⟨e, he, hsa, hme⟩ := e2 hsh
      obtain ⟨i, D⟩ := b3'.shd hk hme.hd.1
      have hnum : numE W.S e = i.num := by unfold numE numOf; rw [hsa, D.S]
      have h3 := F3.li h2
      have sg := h3.sget hk
      have f14 := D.f14
      have f0 := D.f0
      have f10 := s3.ok.f10
      have hlen := s2.len
      have hl3 := s2.l3
      repeat (walk_at "st")
      walk_at "ca"
      refine sp_llearnt (F3.no n2) (by rw [List.length_map]; exact pd6) fun σ4 F4 n4 => ?_
      rw [← hnum, learnE_N, ← he] at n4
      have := rr_rest (F4.li h3) (F4.bi b3') hk (F4.sie s3) n4 (tot := hi + mi) (l7 := some (.int mi)) (Q := Q) (by exact pa3) (fun hl _ => ⟨e, learnE_in (hl ▸ he), hme⟩) fun σ' hi' mi' G => q σ' es2 lost2 hi' mi' (((G2.trans F3.g).trans F4.g).trans G)
      rw [hsh] at this
      repeat (walk_at "st")
      exact this
end
section
set_option linter.unusedSimpArgs false
set_option maxHeartbeats 4000000
set_option maxRecDepth 10000
theorem wv_pl {σ : H} {W : Wd} (h : BI σ W) {k : Nat} (hk : k < W.m) {x : Str} {c : Int} : (V.p2 (.int c) (wval W.A x k)).pl 4 = true := by
  show (true && V.pl 3 (wval W.A x k)) = true
  unfold wval
  cases hs : seen W.A x k with
  | none => rfl
  | some p =>
    obtain ⟨f, v⟩ := p
    obtain ⟨-, -, hv⟩ := seen_good h k hk hs
    cases v <;> try rfl
    rename_i a b
    show V.pl 3 (if 8 ≤ f then b else .none) = true
    by_cases g8 : 8 ≤ f
    · obtain ⟨g, s, e, hok⟩ := hv.2 g8
      cases e
      rw [if_pos g8]
      exact hok
    · rw [if_neg g8]; rfl
theorem numE_ext {σ : H} {S S' : SM} (E : Ext S S') {x : Str} {es : List En} (h : ∀ e ∈ es, EnOk σ S x e) : es.map (numE S') = es.map (numE S) :=
  List.map_congr_left fun e he => by
    obtain ⟨i, hi⟩ := (h e he).ch.sh
    unfold numE numOf; rw [hi, E _ _ hi]
theorem own_gs {σ : H} {W : Wd} (h : BI σ W) {k : Nat} (hk : k < W.m) {x : Str} {p : Int × V} (ho : find3 (W.A k).rows x = some p) {e : En} (he : EnOk σ W.S x e) (hm : Hm W k e.sa e.gs) : e.gs = [] := by
  cases hg : e.gs with
  | nil => rfl
  | cons g gs =>
    have hc := he.ch
    rw [hg] at hc
    obtain ⟨i, hi, hx, -⟩ := hc
    obtain ⟨hal, hsp⟩ := hm.hd
    obtain ⟨j, D⟩ := h.shd hk hal
    have := D.S
    rw [hsp, hi] at this; cases this
    rw [D.rows] at hx
    rw [idx3_none.mp hx] at ho; cases ho
theorem shar_own {W : Wd} {x : Str} {k : Nat} {p : Int × V} (ho : find3 (W.A k).rows x = some p) (ha : W.al k = false) : shar W x k = true := by
  cases k with
  | zero => unfold shar; rw [ha]; rfl
  | succ k => unfold shar; rw [ha, ho]; rfl
theorem code1_own {A : Nat → OA} {x : Str} {k : Nat} {f : Int} {v : V} (ho : find3 (A k).rows x = some (f, v)) (hc : wcode A x k = 1) : f < 8 ∧ f % 2 = 1 ∧ wflag A x k = f := by
  have wf : wflag A x k = f := by unfold wflag; rw [ho]
  unfold wcode at hc
  rw [ho] at hc
  change (if 8 ≤ f then (2 : Int) else if f % 2 = 0 then 0 else 1) = 1 at hc
  by_cases g8 : 8 ≤ f
  · rw [if_pos g8] at hc; cases hc
  · rw [if_neg g8] at hc
    by_cases g2 : f % 2 = 0
    · rw [if_pos g2] at hc; cases hc
    · exact ⟨by exact pb9, by exact pb17, wf⟩
noncomputable abbrev wrK : S1 := (sCons (sIf (tNot (tVal (pCall F_law_keeps (eCons (pV 3) (eCons (pV 4) eNil))))) (sCons (sRet (pK (.bool false))) sNil) sNil) (sCons (sIf (tOr [(tNot (tVal (pV 10))), (tCmp fNe (pSub (pV 13) (pK (.int 0))) (pK (.int 1))), (tVal (pF (pV 6) 17)), (tVal (pSub (pV 4) (pK (.str (Str.ofString "lost")))))]) (sCons (sRet (pK (.bool true))) sNil) sNil) (sCons (sSet 14 (pF (pV 3) 25)) (sCons (sExpr (pCall F_law_written (eCons (pV 0) (eCons (pV 2) (eCons (pV 7) (eCons (pBin fAdd (pV 5) (pK (.int 1))) eNil)))))) (sCons (sRet (pAnd (pCmp fEq (pMeth [(5, F_WriteSite_write_to)] (pV 3) (eCons (pV 6) (eCons (pBin fAdd (pV 5) (pK (.int 1))) eNil))) (pTup (eCons (pK (.int 1)) (eCons (pK .none) eNil)))) (pCmp fEq (pF (pV 3) 25) (pBin fAdd (pV 14) (pK (.int 1)))))) sNil)))))
theorem wr_rest {σ : H} {W : Wd} {L : Lw} (h : LI σ W L) (hb : BI σ W) {k : Nat} (hk : k < W.m) {s nt : Addr} {x : Str} (hx : x ∈ abc) {lim : Int} {es : List En} {lost : Bool} {hi mi : Int} (hs : SiE σ W.S 5 s x lim es lost hi mi) (hw : EnWs σ W.S x es) (hn : NoOk σ nt (es.map (numE W.S)) lost) {n c : Int} {v : V} {own : Bool} {l8 l9 l11 l12 : Option V} {Q : V → H → Prop}
    (must : own = true → c = 1 → W.al k = false → lost = false → wcode W.A x k = 1 ∧ wval W.A x k = .none ∧ ∃ e ∈ es, Hm W k e.sa e.gs)
    (q : ∀ σ' W' es' lost' hi' mi', FrG σ σ' 5 s nt → BI σ' W' → LI σ' W' L → Step W W' k → SiE σ' W'.S 5 s x lim es' lost' hi' mi' → EnWs σ' W'.S x es' → NoOk σ' nt (es'.map (numE W'.S)) lost' → Q (.bool true) σ') :
    wrK [some (.ref (.lst 5) L.owA), some (.ref (.lst 6) L.stA), some (.int k), some (.ref (.inst 5) s), some (.ref (.dS 3) nt), some (.int n), some (stv (W.st k)), some (.str x), l8, l9, some (.bool own), l11, l12, some (.p2 (.int c) v), none] σ (QF Q) := by
  refine q_ifC (d_not (d_tval (e_call (by walk_at "ev") (sp_keeps hb hs hn fun σ1 F1 dS1 => k_iff (q_nil ?_)))))
  have h1 := F1.li h
  have b1' := F1.bi hb
  have s1 := F1.sie hs
  have w1 := F1.ws hw
  have n1 : NoOk σ1 nt (es.map (numE W.S)) lost := hn.mono (by rw [dS1]) F1.l10 F1.nxt
  have early := q σ1 W es lost hi mi F1.g b1' h1 (.refl _ _) s1 w1 n1
  obtain ⟨L1, d1, -⟩ := n1.ex
  have f17 := (b1'.st k hk).f17
  have dl : dget (σ1.dS 3 nt).1 sLost = _ := d1 ▸ dg_lost
  have f25 := s1.ok.f25
  cases own with
  | false =>
    repeat (walk_at "st")
    exact early
  | true =>
    by_cases c1 : c = 1
    · cases hal : W.al k with
      | true =>
        rw [hal] at f17
        repeat (walk_at "st")
        exact early
      | false =>
        rw [hal] at f17
        cases lost with
        | true =>
          repeat (walk_at "st")
          exact early
        | false =>
          obtain ⟨wc, wv, e, he, hm⟩ := must rfl c1 hal rfl
          repeat (walk_at "st")
          walk_at "ca"
          refine sp_lwritten h1 b1' hk hx (n := n + 1) fun σ2 F2 h2 => ?_
          have b2 := F2.bi b1'
          have s2 := F2.sie s1
          have w2 := F2.ws w1
          have n2 := F2.no n1
          refine q_retFC (e_and (e_cmp (e_meth (by walk_at "ev") rfl (by walk_at "ev") (sp_write_to b2 hk hx s2 w2 (n + 1) (fun σ3 W3 _ b3 st3 A3 _ F3 s3 w3 => ?_) (fun σ3 W3 es3 lost3 hno b3 st3 A3 _ F3 s3 w3 _ _ => absurd hm (hno e he))))))
          rw [wc, wv]
          have h3 : LI σ3 W3 L := F3.li (h2 W3 st3.m st3.st st3.A A3)
          have n3 : NoOk σ3 nt (es.map (numE W3.S)) false := by rw [numE_ext st3.ext s2.en]; exact F3.no n2
          have f25 := s3.ok.f25
          refine e_val (by walk_at "ev") (k_eq rfl rfl ?_)
          rw [decide_eq_true rfl]
          exact b_t (e_val (by walk_at "ev") (q σ3 W3 es false _ _ ((F1.g.trans F2.g).trans F3.g) b3 h3 st3 s3 w3 n3))
    · repeat (walk_at "st")
      exact early
theorem isN_fv {p : Option (Int × V)} : (!(fvV p).isN) = p.isSome := by cases p <;> rfl
noncomputable abbrev wwK : S1 := (sCons (sIf (tOr [(tCmp fNe (pMeth [(5, F_WriteSite_write_to)] (pV 3) (eCons (pV 6) (eCons (pV 5) eNil))) (pV 13)), (tCmp fNe (pBin fAdd (pF (pV 3) 25) (pF (pV 3) 26)) (pBin fAdd (pV 8) (pK (.int 1))))]) (sCons (sRet (pK (.bool false))) sNil) sNil) (sCons (sIf (tAnd [(tCmp fGt (pF (pV 3) 26) (pV 9)), (tVal (pV 11)), (tCmp fEq (pSub (pV 13) (pK (.int 0))) (pK (.int 1))), (tNot (tVal (pF (pV 6) 17)))]) (sCons (sExpr (pCall F_law_learnt (eCons (pV 4) (eCons (pV 12) (eCons (pF (pV 3) 10) eNil))))) sNil) sNil) wrK))
theorem ww_rest {σ : H} {W : Wd} {L : Lw} (hb : BI σ W) {k : Nat} (hk : k < W.m) {s nt : Addr} {x : Str} (hx : x ∈ abc) {lim : Int} {es : List En} {lost : Bool} {hi mi : Int} (hs : SiE σ W.S 5 s x lim es lost hi mi) (hw : EnWs σ W.S x es) (hn : NoOk σ nt (es.map (numE W.S)) lost) {n z : Int} (hz : W.al k = false → z = numOf W.S (W.sp k)) {Q : V → H → Prop}
    (h3 : ∀ W' : Wd, W'.m = W.m → W'.st = W.st → (∀ l, l ≠ k → W'.A l = W.A l) → W'.A k = wrow W.A x k (.int n) → LI σ W' L)
    (q : ∀ σ' W' es' lost' hi' mi', FrG σ σ' 5 s nt → BI σ' W' → LI σ' W' L → Step W W' k → SiE σ' W'.S 5 s x lim es' lost' hi' mi' → EnWs σ' W'.S x es' → NoOk σ' nt (es'.map (numE W'.S)) lost' → Q (.bool true) σ') :
    wwK [some (.ref (.lst 5) L.owA), some (.ref (.lst 6) L.stA), some (.int k), some (.ref (.inst 5) s), some (.ref (.dS 3) nt), some (.int n), some (stv (W.st k)), some (.str x), some (.int (hi + mi)), some (.int mi), some (.bool (find3 (W.A k).rows x).isSome), some (.bool (shar W x k)), some (.int z), some (.p2 (.int (wcode W.A x k)) (wval W.A x k)), none] σ (QF Q) := by
  have p1 : (V.p2 (.int (wcode W.A x k)) (wval W.A x k)).pl 4 = true := wv_pl hb hk
  have code : ∀ W4 : Wd, W4.A k = wrow W.A x k (.int n) → ∀ p, find3 (W.A k).rows x = some p → wcode W.A x k = 1 → wcode W4.A x k = 1 ∧ wval W4.A x k = .none := fun W4 A4 p hp hc => by
    obtain ⟨f, v⟩ := p
    obtain ⟨c1, c2, c3⟩ := code1_own hp hc
    have : find3 (W4.A k).rows x = some (f, .int n) := by
      rw [A4]; unfold wrow; rw [if_pos hc, c3]
      show find3 (putR (W.A k).rows x f (.int n)) x = _
      rw [find3_put, if_pos rfl]
    obtain ⟨d1, d2, -⟩ := wcode_own this c1 c2
    exact ⟨d1, d2⟩
  refine q_ifC (d_or (d_cmp (e_meth (by walk_at "ev") rfl (by walk_at "ev") (sp_write_to hb hk hx hs hw n (fun σ4 W4 hex b4 st4 A4 O4 F4 s4 w4 => ?_) (fun σ4 W4 es4 lost4 hno b4 st4 A4 O4 F4 s4 w4 e1 e2 => ?_)))))
  · have hk4 : k < W4.m := by rw [st4.m]; exact hk
    have n4 : NoOk σ4 nt (es.map (numE W4.S)) lost := by rw [numE_ext st4.ext hs.en]; exact F4.no hn
    have f25 := s4.ok.f25
    have f26 := s4.ok.f26
    refine e_val (Ev.var rfl) (k_ne p1 p1 ?_)
    rw [nb_f rfl]
    refine b_f (d_val (Et.of (Et.neI (by walk_at "ev") (by walk_at "ev") (nb_f (by exact pa2))) Et.o0) (k_iff (q_nil (q_iff (Et.af (Et.gt (by walk_at "ev") (by walk_at "ev") (decide_eq_false (Int.lt_irrefl _)))) (q_nil ?_)))))
    rw [← st4.st]
    refine wr_rest (F4.li (h3 W4 st4.m st4.st st4.A A4)) b4 hk4 hx s4 w4 n4 (fun e1 e2 e3 e4 => ?_) fun σ' W' es' lost' hi' mi' G b l st s w no => q σ' W' es' lost' hi' mi' (F4.g.trans G) b l (st4.trans st) s w no
    cases ho : find3 (W.A k).rows x with
    | none => rw [ho] at e1; cases e1
    | some p =>
      obtain ⟨d1, d2⟩ := code W4 A4 p ho e2
      obtain ⟨e, he, hme⟩ := hex
      have g0 := own_gs hb hk ho (hs.en e he) hme
      obtain ⟨o1, o2⟩ := O4 p ho
      refine ⟨d1, d2, e, he, ?_⟩
      rw [g0]; exact ⟨e3, o2.trans hme.hd.2⟩
  · have hk4 : k < W4.m := by rw [st4.m]; exact hk
    have n4 : NoOk σ4 nt (es.map (numE W4.S)) lost := by rw [numE_ext st4.ext hs.en]; exact F4.no hn
    have h4 : LI σ4 W4 L := F4.li (h3 W4 st4.m st4.st st4.A A4)
    have f25 := s4.ok.f25
    have f26 := s4.ok.f26
    have f17 := (b4.st k hk4).f17
    rw [st4.st] at f17
    have code := code W4 A4
    refine e_val (Ev.var rfl) (k_ne p1 p1 ?_)
    rw [nb_f rfl]
    refine b_f (d_val (Et.of (Et.neI (by walk_at "ev") (by walk_at "ev") (nb_f (by exact pa3))) Et.o0) (k_iff (q_nil ?_)))
    have rest : ∀ σ5, FrN σ4 σ5 nt → NoOk σ5 nt (es4.map (numE W4.S)) lost4 →
        wrK [some (.ref (.lst 5) L.owA), some (.ref (.lst 6) L.stA), some (.int k), some (.ref (.inst 5) s), some (.ref (.dS 3) nt), some (.int n), some (stv (W.st k)), some (.str x), some (.int (hi + mi)), some (.int mi), some (.bool (find3 (W.A k).rows x).isSome), some (.bool (shar W x k)), some (.int z), some (.p2 (.int (wcode W.A x k)) (wval W.A x k)), none] σ5 (QF Q) := fun σ5 F5 n5 => by
      rw [← st4.st]
      refine wr_rest (F5.li h4) (F5.bi b4) hk4 hx (F5.sie s4) (F5.ws w4) n5 (fun q1 q2 q3 q4 => ?_) fun σ' W' es' lost' hi' mi' G b l st s w no => q σ' W' es' lost' hi' mi' ((F4.g.trans F5.g).trans G) b l (st4.trans st) s w no
      cases ho : find3 (W.A k).rows x with
      | none => rw [ho] at q1; cases q1
      | some p =>
        obtain ⟨d1, d2⟩ := code p ho q2
        obtain ⟨o1, o2⟩ := O4 p ho
        have hal : W.al k = false := o1 ▸ q3
        obtain ⟨e, he, hsa, hg⟩ := e2 ⟨shar_own ho hal, q2, q3⟩
        refine ⟨d1, d2, e, learnE_in (q4 ▸ he), ?_⟩
        rw [hg p ho]; exact ⟨q3, o2.trans hsa.symm⟩
    by_cases cond : shar W x k = true ∧ wcode W.A x k = 1 ∧ W4.al k = false
    · obtain ⟨e, he, hsa, -⟩ := e2 cond
      obtain ⟨cs, cw, ca⟩ := cond
      have hal : W.al k = false := by
        cases y : W.al k with
        | false => rfl
        | true => rw [st4.alk y] at ca; cases ca
      have hnum : numE W4.S e = z := by
        rw [hz hal]
        obtain ⟨i, D⟩ := hb.shd hk hal
        unfold numE numOf
        rw [hsa, st4.ext _ _ D.S, D.S]
      rw [ca] at f17
      have f10 := s4.ok.f10
      have hlen := hs.len
      have hl3 := hs.l3
      rw [cs] at rest ⊢
      refine q_ift (Et.at (Et.gt (by walk_at "ev") (by walk_at "ev") (decide_eq_true (by exact pa6))) (by walk_at "ev")) (q_cons ?_)
      walk_at "ca"
      refine sp_llearnt n4 (by rw [List.length_map]; exact pd6) fun σ5 F5 n5 => ?_
      rw [← hnum, learnE_N, ← he] at n5
      walk_at "st"
      exact rest σ5 F5 n5
    · obtain ⟨rfl, rfl⟩ := e1 cond
      have rest := rest σ4 (.refl _ _) n4
      refine q_iff (Et.at (Et.gt (by walk_at "ev") (by walk_at "ev") (decide_eq_true (by exact pa6))) ?_) (q_nil rest)
      cases hsh : shar W x k with
      | false => walk_at "ev"
      | true =>
        by_cases cw : wcode W.A x k = 1
        · cases ca : W4.al k with
          | false => exact absurd ⟨hsh, cw, ca⟩ cond
          | true =>
            rw [ca] at f17
            walk_at "ev"
        · walk_at "ev"
theorem sp_write_right {σ : H} {W : Wd} {L : Lw} (h : LI σ W L) (hb : BI σ W) {k : Nat} (hk : k < W.m) {s nt : Addr} {x : Str} (hx : x ∈ abc) {lim : Int} {es : List En} {lost : Bool} {hi mi : Int} (hs : SiE σ W.S 5 s x lim es lost hi mi) (hw : EnWs σ W.S x es) (hn : NoOk σ nt (es.map (numE W.S)) lost) {n : Int} {Q : V → H → Prop}
    (q : ∀ σ' W' es' lost' hi' mi', FrG σ σ' 5 s nt → BI σ' W' → LI σ' W' L → Step W W' k → SiE σ' W'.S 5 s x lim es' lost' hi' mi' → EnWs σ' W'.S x es' → NoOk σ' nt (es'.map (numE W'.S)) lost' → Q (.bool true) σ') :
    F_law_write_right [.ref (.lst 5) L.owA, .ref (.lst 6) L.stA, .int k, .ref (.inst 5) s, .ref (.dS 3) nt, .int n] σ Q := by
  have ki := hb.ki hk
  have sg := h.sget hk
  have f3 := hs.ok.f3
  have f25 := hs.ok.f25
  have f26 := hs.ok.f26
  refine q_def rfl (q_asg4 (by walk_at "ev") (q_swap2C (e_tup (el_cons (e_cmp (e_call (by walk_at "ev") (sp_own h hb hk x fun σ1 F1 => k_isnB ?_)))))))
  have h1 := F1.li h
  have b1 := F1.bi hb
  rw [isN_fv]
  refine el_cons (e_call (by walk_at "ev") (sp_lshared h1 b1 hk x fun σ2 F2 => el_val El.nil (k_tup2 (k_sw2 ?_))))
  have F12 := F1.trans F2
  have h2 := F12.li h
  have b2 := F12.bi hb
  have s2 := F12.sie hs
  have w2 := F12.ws hw
  have n2 := F12.no hn
  have G2 : FrG σ σ2 5 s nt := F12.g
  clear h1 b1 F1 F2 F12 hn hw hs h hb f25 f26 f3 sg
  have go : ∀ z : Int, (W.al k = false → z = numOf W.S (W.sp k)) → (sCons (sSet 13 (pCall F_law_written (eCons (pV 0) (eCons (pV 2) (eCons (pV 7) (eCons (pV 5) eNil)))))) wwK) [some (.ref (.lst 5) L.owA), some (.ref (.lst 6) L.stA), some (.int k), some (.ref (.inst 5) s), some (.ref (.dS 3) nt), some (.int n), some (stv (W.st k)), some (.str x), some (.int (hi + mi)), some (.int mi), some (.bool (find3 (W.A k).rows x).isSome), some (.bool (shar W x k)), some (.int z), none, none] σ2 (QF Q) := fun z hz =>
    q_setC (e_call (by walk_at "ev") (sp_lwritten h2 b2 hk hx (n := n) fun σ3 F3 h3 => ww_rest (F3.bi b2) hk hx (F3.sie s2) (F3.ws w2) (F3.no n2) hz h3 fun σ' W' es' lost' hi' mi' G => q σ' W' es' lost' hi' mi' ((G2.trans F3.g).trans G)))
  cases hal : W.al k with
  | true =>
    have f17 := (b2.st k hk).f17
    rw [hal] at f17
    walk_at "st"
    exact go 0 fun e => by rw [hal] at e; cases e
  | false =>
    obtain ⟨i, D⟩ := b2.shd hk hal
    have f17 := D.f17
    have f14 := D.f14
    have f0 := D.f0
    walk_at "st"
    exact go i.num fun _ => by unfold numOf; rw [D.S]
end
section
set_option linter.unusedSimpArgs false
set_option maxHeartbeats 4000000
set_option maxRecDepth 10000
structure FrH (σ σ' : H) : Prop where
  nxt : σ.nxt ≤ σ'.nxt
  fld : ∀ c, 3 ≤ c → σ'.fld c = σ.fld c
  lst : ∀ k, k = 3 ∨ k = 4 ∨ k = 8 ∨ k = 9 ∨ k = 10 → σ'.lst k = σ.lst k
  d3 : σ'.dS 3 = σ.dS 3
theorem FrH.refl (σ : H) : FrH σ σ := ⟨Nat.le_refl _, fun _ _ => rfl, fun _ _ => rfl, rfl⟩
theorem FrH.trans {a b c : H} (x : FrH a b) (y : FrH b c) : FrH a c := ⟨Nat.le_trans x.nxt y.nxt, fun c h => (y.fld c h).trans (x.fld c h), fun k h => (y.lst k h).trans (x.lst k h), y.d3.trans x.d3⟩
theorem ky {k : Nat} (hk : k = 3 ∨ k = 4 ∨ k = 8 ∨ k = 9 ∨ k = 10) : 3 ≤ k ∧ k ≠ 11 ∧ k ≠ 12 ∧ k ≠ 13 ∧ k ≠ 7 := by
  rcases hk with rfl | rfl | rfl | rfl | rfl <;> decide
theorem FrB.h {σ σ' : H} (h : FrB σ σ') : FrH σ σ' := ⟨h.nxt, h.fld, fun k hk => h.lst k (ky hk).1, h.dS 3 (by decide)⟩
theorem FrK.h {σ σ' : H} (h : FrK σ σ') : FrH σ σ' := ⟨Nat.le_of_eq h.nxt.symm, fun _ _ => by rw [h.fld], fun k hk => h.lst k (ky hk).2.1 (ky hk).2.2.1, by rw [h.dS]⟩
theorem FrY.h {σ σ' : H} (h : FrY σ σ') : FrH σ σ' := ⟨h.nxt, fun _ _ => by rw [h.fld], fun k hk => h.lst k (ky hk).2.2.2.1 (ky hk).2.2.2.2, h.dS 3 (by decide) (by decide)⟩
theorem FrK.li {σ σ' : H} (F : FrK σ σ') {W : Wd} {L : Lw} (h : LI σ W L) : LI σ' W L := h.eqv (F.lst 5 (by decide) (by decide)) (F.lst 6 (by decide) (by decide)) (F.lst 7 (by decide) (by decide)) (by rw [F.dS]) (Nat.le_of_eq F.nxt.symm)
theorem FrK.bi {σ σ' : H} (F : FrK σ σ') {W : Wd} (h : BI σ W) : BI σ' W := h.eqv (fun _ _ => by rw [F.fld]) (F.lst 1 (by decide) (by decide)) (by rw [F.dS]) (by rw [F.dS]) (by rw [F.dI]) (by rw [F.dT]) (Nat.le_of_eq F.nxt.symm)
theorem FrB.li {σ σ' : H} (F : FrB σ σ') {W : Wd} {L : Lw} (h : LI σ W L) : LI σ' W L := h.eqv (F.lst 5 (by decide)) (F.lst 6 (by decide)) (F.lst 7 (by decide)) (F.dS 2 (by decide)) F.nxt
theorem BoxOk.mono {σ σ' : H} {b : Addr} (h : BoxOk σ b) (h1 : σ'.lst 11 = σ.lst 11) (h2 : σ'.lst 12 = σ.lst 12) : BoxOk σ' b := by
  obtain ⟨ib, ns, s, a, c, r⟩ := h.ex
  exact ⟨ib, ns, s, by rw [h1]; exact a, by rw [h2]; exact c, r⟩
theorem LI.cong {σ : H} {W W' : Wd} {L : Lw} (h : LI σ W L) (em : W'.m = W.m) (es : W'.st = W.st) (eA : ∀ l, W'.A l = W.A l) : LI σ W' L :=
  ⟨by rw [em]; exact h.owns, by rw [em, es]; exact h.stores, fun l hl => by rw [eA]; exact h.ow l (em ▸ hl), by rw [em]; exact h.owinj, fun a b t ha hb => by rw [eA, eA]; exact h.rlinj a b t (em ▸ ha) (em ▸ hb)⟩
theorem all_of {W W' : Wd} {k : Nat} (st : Step W W' k) (e : W'.A k = W.A k) : ∀ l, W'.A l = W.A l := fun l => by
  by_cases z : l = k
  · rw [z, e]
  · exact st.A l z
theorem dput3a {K α : Type} [DecidableEq K] {a b c : K} {u v w z : α} (h1 : a ≠ b) (h2 : a ≠ c) : dput [(a, u), (b, v), (c, w)] a z = [(a, z), (b, v), (c, w)] := by unfold dput; simp [Ne.symm h1, Ne.symm h2]
theorem dput3b {K α : Type} [DecidableEq K] {a b c : K} {u v w z : α} (h1 : a ≠ b) (h2 : b ≠ c) : dput [(a, u), (b, v), (c, w)] b z = [(a, u), (b, z), (c, w)] := by unfold dput; simp [h1, Ne.symm h2]
theorem dput3c {K α : Type} [DecidableEq K] {a b c : K} {u v w z : α} (h1 : a ≠ c) (h2 : b ≠ c) : dput [(a, u), (b, v), (c, w)] c z = [(a, u), (b, v), (c, z)] := by unfold dput; simp [h1, h2]
theorem dp_rows {o : OA} {k : Nat} {rl rl' : Addr} {R : R3} : dput (ownL o k rl) sRows (.ref (.lst 7) rl') = ownL (o.wr R) k rl' := dput3a str_ra str_ro
theorem dp_above {o : OA} {k : Nat} {rl : Addr} {b : Bool} : dput (ownL o k rl) sAbove (if b then .int ((k - 1 : Nat) : Int) else .none) = ownL (o.wa b) k rl := dput3b str_ra str_ao
theorem dp_open {o : OA} {k : Nat} {rl : Addr} {b : Bool} : dput (ownL o k rl) sOpen (.bool b) = ownL (o.wo b) k rl := dput3c str_ro str_ao
theorem getset {v : Int} (h0 : 0 ≤ v) (h1 : v < 9) : ((Str.ofString "get").length + (Str.ofString (toString v)).length ≤ 1000 ∧ (Str.ofString "set").length + (Str.ofString (toString v)).length ≤ 1000) ∧ PyData.strOk (Str.ofString "get" ++ Str.ofString (toString v)) = true ∧ PyData.strOk (Str.ofString "set" ++ Str.ofString (toString v)) = true := by
  have : ∀ v ∈ (List.range 9).map Int.ofNat, ((Str.ofString "get").length + (Str.ofString (toString v)).length ≤ 1000 ∧ (Str.ofString "set").length + (Str.ofString (toString v)).length ≤ 1000) ∧ PyData.strOk (Str.ofString "get" ++ Str.ofString (toString v)) = true ∧ PyData.strOk (Str.ofString "set" ++ Str.ofString (toString v)) = true := by decide +kernel
  exact this v (List.mem_map.mpr ⟨v.toNat, List.mem_range.mpr (by omega), Int.toNat_of_nonneg h0⟩)
theorem del_loop {rl : Addr} {x : Str} (hx : (V.str x).pl 4 = true) : ∀ (r pre : R3) (σ : H) (acc : List V) (l1 : Option V) (Q : List V → H → Prop), σ.lst 7 rl = (pre ++ r).map r3V → (∀ y ∈ r, y.1 ∈ abc) → acc.length + r.length ≤ 900 → Q (acc ++ (delR r x).map r3V) σ →
    compL 1 (aVar 1) (tCmp fNe (pSub (pV 1) (pK (.int 0))) (pV 0)) (pV 1) (r.map r3V) (.lst 7 rl pre.length) [some (.str x), l1] acc σ Q := by
  intro r
  induction r with
  | nil => intro pre σ acc l1 Q h2 hr h4 q; rw [show acc ++ (delR [] x).map r3V = acc from List.append_nil acc] at q; exact q
  | cons y r ih =>
    intro pre σ acc l1 Q h2 hr h4 q
    obtain ⟨k, f, v⟩ := y
    rw [List.length_cons] at h4
    have hk : (V.str k).pl 4 = true := abc_pl (hr (k, f, v) (.head _))
    have adv : (IK.lst 7 rl pre.length).adv.items σ = r.map r3V := by
      show (σ.lst 7 rl).drop (pre.length + 1) = _
      rw [h2, drop_mid]
    have ih := fun acc => ih (pre ++ [(k, f, v)]) σ acc (some (r3V (k, f, v))) Q (by rw [List.append_assoc]; exact h2) (fun y hy => hr y (.tail _ hy))
    rw [List.length_append] at ih
    unfold delR at q
    by_cases e : k = x
    · rw [List.filter_cons_of_neg (by exact fun z => of_decide_eq_true z e)] at q
      exact cl_var0 rfl (Et.nev (v := .str k) (w := .str x) (by walk_at "ev") (by walk_at "ev") hk hx (nb_f (congrArg V.str e))) adv trivial (ih acc (by exact pb3) q)
    · rw [List.filter_cons_of_pos (by exact decide_eq_true e)] at q
      exact cl_var rfl (Et.nev (v := .str k) (w := .str x) (by walk_at "ev") (by walk_at "ev") hk hx (nb_t fun z => e (V.str.inj z))) (by walk_at "ev") (by exact pc9) adv trivial (ih (acc ++ [r3V (k, f, v)]) (by rw [List.length_append, List.length_singleton]; exact pb2) (by rw [List.append_assoc]; exact q))
section
variable {σ : H} {W : Wd} {L : Lw} (h : LI σ W L) (hb : BI σ W) {b : Addr} (hx : BoxOk σ b) {k : Nat} (hk : k < W.m) {x : Str} (ha : x ∈ abc) {Q : Fl → Ls → H → Prop} {r : S1} {fm fl : Int} {v : V}
include h hb hx hk ha
theorem ch_put (e0 : 0 ≤ fl) (e1 : fl < 16) (hv : vOk fl v) {ls : Ls} (hls : ls = [some (.ref (.lst 11) b), some (.ref (.lst 5) L.owA), some (.ref (.lst 6) L.stA), some (.int k), some (.str x), some (.int fm), some (stv (W.st k)), some (.ref (.dS 2) (L.ow k)), some (.int fl), some v])
    (q : ∀ σ' W', FrH σ σ' → BoxOk σ' b → BI σ' W' → LI σ' W' L → Step W W' k → r ls σ' Q) :
    sCons (sExpr (pMeth [(2, F_Store_put)] (pV 6) (eCons (pV 4) (eCons (pV 8) (eCons (pV 9) eNil))))) (sCons (sCons (sExpr (pCall F_law_put (eCons (pV 1) (eCons (pV 3) (eCons (pV 4) (eCons (pV 8) (eCons (pV 9) eNil))))))) sNil) r) ls σ Q := by
  have hg := (hb.st k hk).good
  subst hls
  refine q_expr (e_meth (by walk_at "ev") rfl (by walk_at "ev") (sp_put hb hk ha e0 e1 hv fun σ4 W4 b4 s4 A4 F4 _ => ?_))
  refine q_cons (q_expr (e_call (by walk_at "ev") (sp_lput (F4.li h) hb.m4 hk hg ha fun σ5 F5 h5 => q_nil ?_)))
  exact q σ5 W4 (F4.h.trans F5.h) ((hx.mono (F4.lst 11 (by decide)) (F4.lst 12 (by decide))).mono (F5.lst 11 (by decide) (by decide)) (F5.lst 12 (by decide) (by decide))) (F5.bi b4) (h5 W4 s4.m s4.st s4.A A4) s4
theorem ch_del {ls : Ls} (hls : ls = [some (.ref (.lst 11) b), some (.ref (.lst 5) L.owA), some (.ref (.lst 6) L.stA), some (.int k), some (.str x), some (.int fm), some (stv (W.st k)), some (.ref (.dS 2) (L.ow k)), some (.int fl), some v])
    (q : ∀ σ' W', FrH σ σ' → BoxOk σ' b → BI σ' W' → LI σ' W' L → Step W W' k → r ls σ' Q) :
    sCons (sExpr (pMeth [(2, F_Store_remove)] (pV 6) (eCons (pV 4) eNil))) (sCons (sCons (sPutI (pComp 7 [4] 1 (aVar 1) (tCmp fNe (pSub (pV 1) (pK (.int 0))) (pV 0)) (pV 1) (iLst (pSub (pV 7) (pK (.str (Str.ofString "rows")))))) (pV 7) (pK (.str (Str.ofString "rows")))) sNil) r) ls σ Q := by
  have hg := (hb.st k hk).good
  have hlen := hg.len
  obtain ⟨rl, d, l, hrl⟩ := h.ow k hk
  subst hls
  refine q_expr (e_meth (by walk_at "ev") rfl (by walk_at "ev") (sp_remove hb hk ha fun σ4 W4 b4 s4 A4 F4 => ?_))
  have h4 := F4.li h
  have d4 : (σ4.dS 2 (L.ow k)).1 = ownL (W.A k) k rl := by rw [F4.dS 2 (by decide)]; exact d
  have l4 : σ4.lst 7 rl = (W.A k).rows.map r3V := by rw [F4.lst 7 (by decide)]; exact l
  have dr : dget (σ4.dS 2 (L.ow k)).1 sRows = _ := d4 ▸ dg_rows
  refine q_cons (q_putC (e_compL (Ev.subS (by walk_at "ev") Ev.con dr) (fun i hi => by cases List.mem_singleton.mp hi; exact ⟨_, rfl⟩) fun a hn => ?_))
  rw [l4, List.drop_zero]
  refine del_loop (abc_pl ha) (W.A k).rows [] (σ4.res a) [] none _ l4 (fun y hy => (hg.1.2 _ (List.mem_map.mpr ⟨y, hy, rfl⟩)).1) (by rw [List.length_nil]; exact pc8) ⟨Nat.lt_succ_self _, ?_⟩
  have dd : ∀ l', (((σ4.res a).setL 7 a l').dS 2 (L.ow k)).1 = ownL (W.A k) k rl := fun _ => d4
  refine k_putS (by walk_at "ev") Ev.con (by rw [dd]; exact Nat.le_of_ble_eq_true rfl) fun e => q_nil ?_
  rw [dd, dp_rows (R := delR (W.A k).rows x), List.nil_append]
  have eL : ∀ {k'}, k' ≠ 7 → ((σ4.res a).setL 7 a ((delR (W.A k).rows x).map r3V)).lst k' = σ4.lst k' := fun z => setL_kl z
  exact q _ W4 (F4.h.trans ⟨Nat.le_succ_of_le hn, fun _ _ => rfl, fun k' hk' => eL (k' := k') (ky hk').2.2.2.2, setS_kl (by decide)⟩) ((hx.mono (F4.lst 11 (by decide)) (F4.lst 12 (by decide))).mono (eL (k' := 11) (by decide)) (eL (k' := 12) (by decide))) (b4.eqv (fun _ _ => rfl) (eL (k' := 1) (by decide)) (setS_kl (by decide)) (setS_kl (by decide)) rfl rfl (Nat.le_succ_of_le hn)) (h4.chg hk s4.m s4.st s4.A (Nat.le_succ_of_le hn) (eL (k' := 5) (by decide)) (eL (k' := 6) (by decide)) d4 (rl' := a) (by rw [A4, setS_at]) (by rw [A4]; exact (setL_at : ((σ4.res a).setL 7 a _).lst 7 a = _)) (.inr ⟨hn, Nat.lt_succ_self _⟩) (fun c hc => setS_a hc) (fun c _ hc => (setL_a (Nat.ne_of_lt (Nat.lt_of_lt_of_le hc hn)) : ((σ4.res a).setL 7 a _).lst 7 c = _))) s4
theorem ch_close {ls : Ls} (hls : ls = [some (.ref (.lst 11) b), some (.ref (.lst 5) L.owA), some (.ref (.lst 6) L.stA), some (.int k), some (.str x), some (.int fm), some (stv (W.st k)), some (.ref (.dS 2) (L.ow k)), some (.int fl), some v])
    (q : ∀ σ' W', FrH σ σ' → BoxOk σ' b → BI σ' W' → LI σ' W' L → Step W W' k → r ls σ' Q) :
    sCons (sExpr (pMeth [(2, F_Store_close)] (pV 6) eNil)) (sCons (sCons (sPutI (pK (.bool false)) (pV 7) (pK (.str (Str.ofString "open")))) sNil) r) ls σ Q := by
  obtain ⟨rl, d, l, hrl⟩ := h.ow k hk
  subst hls
  refine q_expr (e_meth (by walk_at "ev") rfl (by walk_at "ev") (sp_close hb hk fun σ4 W4 b4 s4 A4 F4 => ?_))
  have h4 := F4.li h
  have d4 : (σ4.dS 2 (L.ow k)).1 = ownL (W.A k) k rl := by rw [F4.dS 2 (by decide)]; exact d
  have l4 : σ4.lst 7 rl = (W.A k).rows.map r3V := by rw [F4.lst 7 (by decide)]; exact l
  refine q_cons (q_putS Ev.con (by walk_at "ev") Ev.con (by rw [d4]; exact Nat.le_of_ble_eq_true rfl) fun e => q_nil ?_)
  rw [d4, dp_open]
  exact q _ W4 (F4.h.trans ⟨Nat.le_refl _, fun _ _ => rfl, fun _ _ => rfl, setS_kl (by decide)⟩) ((hx.mono (F4.lst 11 (by decide)) (F4.lst 12 (by decide))).mono rfl rfl) (b4.eqv (fun _ _ => rfl) rfl (setS_kl (by decide)) (setS_kl (by decide)) rfl rfl (Nat.le_refl _)) (h4.chg hk s4.m s4.st s4.A (Nat.le_refl _) rfl rfl d4 (rl' := rl) (by rw [A4, setS_at]) (by rw [A4]; exact l4) (.inl rfl) (fun c hc => setS_a hc) (fun _ _ _ => rfl)) s4
theorem ch_proto (k0 : 0 < k) {ls : Ls} (hls : ls = [some (.ref (.lst 11) b), some (.ref (.lst 5) L.owA), some (.ref (.lst 6) L.stA), some (.int k), some (.str x), some (.int fm), some (stv (W.st k)), some (.ref (.dS 2) (L.ow k)), some (.int fl), some v])
    (q : ∀ σ' W', FrH σ σ' → BoxOk σ' b → BI σ' W' → LI σ' W' L → Step W W' k → r ls σ' Q) :
    sCons (sPutI (pSub (pList 13 (eCons (pK .none) (eCons (pBin fSub (pV 3) (pK (.int 1))) eNil))) (pBin fMod (pV 8) (pK (.int 2)))) (pV 7) (pK (.str (Str.ofString "above")))) (sCons (sCons (sExpr (pMeth [(2, F_Store_set_proto)] (pV 6) (eCons (pIf (tCmp fIs (pSub (pV 7) (pK (.str (Str.ofString "above")))) (pK .none)) (pK .none) (pSub (pV 2) (pBin fSub (pV 3) (pK (.int 1))))) eNil))) sNil) r) ls σ Q := by
  obtain ⟨rl, d, l, hrl⟩ := h.ow k hk
  have ki := hb.ki hk
  have ek : (k : Int) - 1 = ((k - 1 : Nat) : Int) := by exact pb18
  have m0 : 0 ≤ fl % 2 ∧ fl % 2 < 2 := ⟨Int.emod_nonneg _ (by decide), Int.emod_lt_of_pos _ (by decide)⟩
  obtain ⟨bb, hbb⟩ : ∃ bb : Bool, [V.none, .int ((k : Int) - 1)][(fl % 2).toNat]? = some (if bb then .int ((k - 1 : Nat) : Int) else .none) := by
    have : fl % 2 = 0 ∨ fl % 2 = 1 := by omega
    rw [ek]
    rcases this with z | z
    · exact ⟨false, by rw [z]; rfl⟩
    · exact ⟨true, by rw [z]; rfl⟩
  subst hls
  refine q_putC (e_sub (e_list (by walk_at "ev") (Nat.le_of_ble_eq_true rfl) fun a hn => k_subL (Ev.mod2 (by walk_at "ev")) ⟨m0.1, by omega⟩ (by rw [newL_at]; exact hbb) (k_putS (by walk_at "ev") Ev.con (by rw [rd_newL_dS, d]; exact Nat.le_of_ble_eq_true rfl) fun e => ?_)))
  rw [rd_newL_dS, d, dp_above]
  generalize hσ6 : (σ.newL 13 a [V.none, .int ((k : Int) - 1)]).setS 2 (L.ow k) (ownL ((W.A k).wa bb) k rl) e = σ6
  have eL : ∀ {k'}, k' ≠ 13 → σ6.lst k' = σ.lst k' := fun {k'} z => by rw [← hσ6]; exact (newL_kl z : (σ.newL 13 a _).lst k' = _)
  have d6 : (σ6.dS 2 (L.ow k)).1 = ownL ((W.A k).wa bb) k rl := by rw [← hσ6, setS_at]
  have b6 : BI σ6 W := by subst hσ6; exact hb.eqv (fun _ _ => rfl) (eL (by decide)) (setS_kl (by decide)) (setS_kl (by decide)) rfl rfl (Nat.le_succ_of_le hn)
  have H6 : FrH σ σ6 := by subst hσ6; exact ⟨Nat.le_succ_of_le hn, fun _ _ => rfl, fun k' hk' => eL (ky hk').2.2.2.1, setS_kl (by decide)⟩
  have x6 : BoxOk σ6 b := hx.mono (eL (by decide)) (eL (by decide))
  have h6 : ∀ W' : Wd, W'.m = W.m → W'.st = W.st → (∀ l, l ≠ k → W'.A l = W.A l) → W'.A k = (W.A k).wa bb → LI σ6 W' L := fun W' em es eA eK => by
    subst hσ6
    exact h.chg hk em es eA (Nat.le_succ_of_le hn) (eL (by decide)) (eL (by decide)) d (rl' := rl) (by rw [eK]; exact d6) (by rw [eK]; exact (congrFun (eL (by decide)) rl).trans l) (.inl rfl) (fun c hc => setS_a hc) (fun c _ _ => congrFun (eL (by decide)) c)
  have l6 : ∀ {j : Nat}, j < W.m → (σ6.lst 6 L.stA)[((j : Nat) : Int).toNat]? = some (stv (W.st j)) := fun {j} hj => by
    rw [eL (by decide)]; exact h.sget hj
  have da : dget (σ6.dS 2 (L.ow k)).1 sAbove = _ := d6 ▸ dg_above
  have fin : ∀ {Q' : V → H → Prop} (v), v = proV (if bb then some (W.st (k - 1)) else none) → (∀ σ7 W7, FrH σ σ7 → BoxOk σ7 b → BI σ7 W7 → LI σ7 W7 L → Step W W7 k → Q' .none σ7) → F_Store_set_proto [stv (W.st k), v] σ6 Q' := fun v hv hQ => by
    refine sp_set_proto b6 hk (b := bb) (fun _ => k0) hv fun σ7 W7 b7 s7 A7 F7 => ?_
    exact hQ σ7 W7 (H6.trans F7.h) (x6.mono (F7.lst 11 (by decide)) (F7.lst 12 (by decide))) b7 (F7.li (h6 W7 s7.m s7.st s7.A A7)) s7
  refine q_cons (q_expr ?_)
  cases bb with
  | false => exact e_meth (by walk_at "ev") rfl (El.cons (Ev.ift (Et.is (Ev.subS (by walk_at "ev") Ev.con da) rfl) Ev.con) El.nil) (fin _ rfl fun σ' W' H x b' l s => q_nil (q σ' W' H x b' l s))
  | true => exact e_meth (by walk_at "ev") rfl (El.cons (Ev.iff (Et.is (Ev.subS (by walk_at "ev") Ev.con da) rfl) (Ev.subL (by walk_at "ev") (Ev.cast (Ev.sub (by walk_at "ev") Ev.con) (congrArg V.int ek)) ⟨by exact pa1, by omega⟩ (l6 (by exact pb1)))) El.nil) (fin _ rfl fun σ' W' H x b' l s => q_nil (q σ' W' H x b' l s))
end
theorem sp_change {σ : H} {W : Wd} {L : Lw} (h : LI σ W L) (hb : BI σ W) {b : Addr} (hx : BoxOk σ b) {k : Nat} (hk : k < W.m) {x : Str} (ha : x ∈ abc) {Q : V → H → Prop}
    (q : ∀ σ' W', FrH σ σ' → BoxOk σ' b → BI σ' W' → LI σ' W' L → Step W W' k → Q .none σ') : F_law_change [.ref (.lst 11) b, .ref (.lst 5) L.owA, .ref (.lst 6) L.stA, .int k, .str x] σ Q := by
  have ki := hb.ki hk
  refine q_def rfl (q_swap3C (e_tup (el_cons (e_call (by walk_at "ev") (sp_take hx (by decide) fun σ1 fm F1 x1 f0 f1 => ?_)))))
  have h1 := F1.li h
  have og := h1.oget hk
  have sg := h1.sget hk
  refine el_val (by walk_at "ev") (k_tup3 (k_sw3 (q_swap2C (e_tup (el_cons (e_call (by walk_at "ev") (sp_take x1 (by decide) fun σ2 fl F2 x2 g0 g1 => el_cons (e_call (by walk_at "ev") (sp_take x2 (by decide) fun σ3 vl F3 x3 v0 v1 => el_val El.nil (k_tup2 (k_sw2 ?_)))))))))))
  have FK := (F1.trans F2).trans F3
  have h3 := FK.li h
  have b3 := FK.bi hb
  have H3 := FK.h
  have q : ∀ σ' W', FrH σ3 σ' → BoxOk σ' b → BI σ' W' → LI σ' W' L → Step W W' k → Q .none σ' := fun σ' W' H => q σ' W' (H3.trans H)
  clear h1 og sg F1 F2 F3 FK h hb hx x1 x2
  by_cases c4 : fm < 4
  · by_cases c3 : fm = 3
    · obtain ⟨⟨l1, l2⟩, o1, o2⟩ := getset v0 v1
      have e := Int.fdiv_eq_ediv_of_nonneg fl (show (0 : Int) ≤ 2 by decide)
      repeat (walk_at "st")
      refine q_swap2 (Ev.tup2 (El.cons (Ev.add (Ev.mul (Ev.div (by walk_at "ev") Ev.con ⟨g0, by exact pc12, by decide, by decide⟩) Ev.con ⟨by omega, by omega, by decide, by decide⟩) Ev.con) (El.cons (Ev.tup2 (El.cons (Ev.addS Ev.con (Ev.str (by walk_at "ev") ⟨v0, by exact pc12⟩) l1) (El.cons (Ev.addS Ev.con (Ev.str (by walk_at "ev") ⟨v0, by exact pc12⟩) l2) El.nil))) El.nil))) ?_
      repeat (walk_at "st")
      refine ch_put h3 b3 x3 hk ha (by omega) (by omega) ⟨?_, fun _ => ⟨_, _, rfl, o2⟩⟩ rfl fun σ' W' H x b' l s => ?_
      · show (PyData.strOk _ && PyData.strOk _) = true
        rw [o1, o2]; rfl
      · repeat (walk_at "st")
        exact q σ' W' H x b' l s
    · repeat (walk_at "st")
      refine ch_put h3 b3 x3 hk ha g0 (by exact pc12) ⟨rfl, fun z => by omega⟩ rfl fun σ' W' H x b' l s => ?_
      repeat (walk_at "st")
      exact q σ' W' H x b' l s
  · by_cases c6 : fm < 6
    · repeat (walk_at "st")
      refine ch_del h3 b3 x3 hk ha rfl fun σ' W' H x b' l s => ?_
      repeat (walk_at "st")
      exact q σ' W' H x b' l s
    · by_cases e0 : fm = 6 ∧ vl = 0
      · obtain ⟨e1, e2⟩ := e0
        repeat (walk_at "st")
        refine ch_close h3 b3 x3 hk ha rfl fun σ' W' H x b' l s => ?_
        repeat (walk_at "st")
        exact q σ' W' H x b' l s
      · refine q_iff (by walk_at "ev") (q_cons (q_iff (by walk_at "ev") (q_cons (q_iff (c := tAnd [(tCmp fEq (pV 5) (pK (.int 6))), (tCmp fEq (pV 9) (pK (.int 0)))]) ?_ ?_))))
        · by_cases e1 : fm = 6
          · have : vl ≠ 0 := fun z => e0 ⟨e1, z⟩
            walk_at "ev"
          · walk_at "ev"
        · by_cases e1 : fm = 6 ∧ vl = 1
          · obtain ⟨e1, e2⟩ := e1
            repeat (walk_at "st")
            refine q_expr (e_meth (by walk_at "ev") rfl El.nil (sp_go_alone b3 hk fun σ4 W4 b4 s4 a4 A4 F4 => ?_))
            repeat (walk_at "st")
            exact q σ4 W4 F4.h (x3.mono (F4.lst 11 (by decide)) (F4.lst 12 (by decide))) b4 ((F4.li h3).cong s4.m s4.st (all_of s4 A4)) s4
          · refine q_cons (q_iff (c := tAnd [(tCmp fEq (pV 5) (pK (.int 6))), (tCmp fEq (pV 9) (pK (.int 1)))]) ?_ ?_)
            · by_cases e2 : fm = 6
              · have : vl ≠ 1 := fun z => e1 ⟨e2, z⟩
                walk_at "ev"
              · walk_at "ev"
            · by_cases k0 : (0 : Int) < k
              · have k1 : 0 < k := by omega
                repeat (walk_at "st")
                refine ch_proto h3 b3 x3 hk ha k1 rfl fun σ' W' H x b' l s => ?_
                repeat (walk_at "st")
                exact q σ' W' H x b' l s
              · repeat (walk_at "st")
                exact q σ3 W (.refl _) x3 b3 h3 (.refl _ _)
end
section
set_option linter.unusedSimpArgs false
set_option maxHeartbeats 4000000
set_option maxRecDepth 10000
theorem gen_st {Q : H → Prop} {σ : H} (q : ∀ τ, τ = σ → Q τ) : Q σ := q σ rfl
theorem fld_newS {σ : H} {k : Nat} {a : Addr} {d : List (Str × V)} {e c : Nat} : (σ.newS k a d e).fld c = σ.fld c := rfl
theorem fld_newL {σ : H} {k : Nat} {a : Addr} {l : List V} {c : Nat} : (σ.newL k a l).fld c = σ.fld c := rfl
theorem SI.reg1 {σ τ : H} {tr ro : Addr} {N : Nat} {S : SM} (h : SI σ tr ro N S) {md : Int} (hmd : σ.fld 1 tr 11 = some (.int md)) {a : Addr} (ha : ∀ n, σ.fld 2 a 0 ≠ some (.int n)) (hN : N + 1 ≤ 10) (f0 : τ.fld 0 = σ.fld 0) (dI : τ.dI 0 = σ.dI 0) (dT : τ.dT 0 = σ.dT 0) (dS : τ.dS 0 = σ.dS 0)
    (t1 : ∀ f, f ≠ 11 → τ.fld 1 tr f = σ.fld 1 tr f) (t11 : τ.fld 1 tr 11 = some (.int (md + 1))) (g : ∀ p, p ≠ a → τ.fld 2 p 0 = σ.fld 2 p 0) (ga : τ.fld 2 a 0 = some (.int (md + 1))) (nx : σ.nxt ≤ τ.nxt) : SI τ tr ro (N + 1) S := by
  obtain ⟨md', e, m0, m1, m2⟩ := h.t11
  rw [hmd] at e; cases e
  have old : ∀ p n, τ.fld 2 p 0 = some (.int n) → (p = a ∧ n = md + 1) ∨ (n ≤ md ∧ 0 < n ∧ σ.fld 2 p 0 = some (.int n)) := fun p n z => by
    by_cases e : p = a
    · subst e; rw [ga] at z; cases z; exact .inl ⟨rfl, rfl⟩
    · rw [g p e] at z; exact .inr ⟨(m2 p n z).2, (m2 p n z).1, z⟩
  have m0' : 0 < md + 1 := by exact pb10
  have no : ∀ {n : Int}, n ≤ md → n ≠ md + 1 := fun hn e => by omega
  refine ⟨fun b i hb => (h.sh b i hb).eqv (.refl _) nx (by rw [f0]) (by rw [dT]) fun _ _ => by rw [dS], h.inj, h.latinj, (t1 10 (by decide)).trans h.t10, ⟨md + 1, t11, Int.le_of_lt m0', fun b i hb => Int.le_trans (m1 b i hb) (Int.le_add_of_nonneg_right (by decide)), fun p n hp => ?_⟩, (t1 12 (by decide)).trans h.t12, fun e he => ?_, by rw [dI]; exact h.rond, Nat.lt_of_lt_of_le h.rolt nx, Nat.lt_of_lt_of_le h.trlt nx, fun p q n hp hq => ?_, ?_, hN⟩
  · rcases old p n hp with ⟨-, z⟩ | ⟨z, y, -⟩
    · rw [z]; exact ⟨m0', Int.le_refl _⟩
    · exact ⟨y, Int.le_trans z (Int.le_add_of_nonneg_right (by decide))⟩
  · rw [dI] at he
    obtain ⟨b, j, h1, h2, h3, h4, h5⟩ := h.roots e he
    refine ⟨b, j, h1, h2, h3, h4, h5.imp id fun ⟨p, g1, g2⟩ => ⟨p, (g p fun z => ha _ (z ▸ g1)).trans g1, g2⟩⟩
  · rcases old p n hp with ⟨z1, z2⟩ | ⟨z1, -, z2⟩ <;> rcases old q n hq with ⟨y1, y2⟩ | ⟨y1, -, y2⟩
    · rw [z1, y1]
    · exact absurd z2 (no y1)
    · exact absurd y2 (no z1)
    · exact h.numinj p q n z2 y2
  · obtain ⟨l, hl, hr⟩ := h.reg
    refine ⟨(md + 1) :: l, by rw [List.length_cons]; exact pb5, fun p n hp => ?_⟩
    rcases old p n hp with ⟨-, z⟩ | ⟨-, -, z⟩
    · rw [z]; exact .head _
    · exact .tail _ (hr p n z)
noncomputable def Wd.grow (W : Wd) (a sp : Addr) (abv : Bool) (S : SM) : Wd :=
  { W with S := S, m := W.m + 1, st := fun k => if k = W.m then a else W.st k, A := fun k => if k = W.m then ⟨[], abv, true⟩ else W.A k, al := fun k => if k = W.m then false else W.al k, sp := fun k => if k = W.m then sp else W.sp k }
theorem GR3.nil : GR3 [] := ⟨GR.nil, fun _ h => nomatch h⟩
theorem one_more {σ τ : H} {f : Nat} {K : Addr → V} (hK : ∀ x y, K x = K y → x = y) {a t : Addr} (al : ∀ p, p ≠ a → τ.fld 2 p = σ.fld 2 p) (g : τ.fld 2 a f = some (K t)) (ht : σ.nxt ≤ t) (lt : t < τ.nxt) (i : ∀ p q t', σ.fld 2 p f = some (K t') → σ.fld 2 q f = some (K t') → p = q) (l : ∀ p t', σ.fld 2 p f = some (K t') → t' < σ.nxt) :
    (∀ p q t', τ.fld 2 p f = some (K t') → τ.fld 2 q f = some (K t') → p = q) ∧ ∀ p t', τ.fld 2 p f = some (K t') → t' < τ.nxt := by
  have old : ∀ p t', τ.fld 2 p f = some (K t') → p = a ∧ t' = t ∨ t' < σ.nxt ∧ σ.fld 2 p f = some (K t') := fun p t' hp => by
    by_cases e : p = a
    · subst e; rw [g] at hp; exact .inl ⟨rfl, (hK _ _ (Option.some.inj hp)).symm⟩
    · rw [al p e] at hp; exact .inr ⟨l p t' hp, hp⟩
  refine ⟨fun p q t' hp hq => ?_, fun p t' hp => ?_⟩
  · rcases old p t' hp with ⟨z1, z2⟩ | ⟨z1, z2⟩ <;> rcases old q t' hq with ⟨y1, y2⟩ | ⟨y1, y2⟩
    · rw [z1, y1]
    · exact absurd ht (Nat.not_le.mpr (z2 ▸ y1))
    · exact absurd ht (Nat.not_le.mpr (y2 ▸ z1))
    · exact i p q t' z2 y2
  · rcases old p t' hp with ⟨-, z⟩ | ⟨z, -⟩
    · rw [z]; exact lt
    · exact Nat.lt_trans (Nat.lt_of_lt_of_le z ht) lt
theorem BI.grow {σ τ : H} {W : Wd} (h : BI σ W) (hm : W.m + 1 ≤ 4) {abv : Bool} (hab : abv = true → 0 < W.m) {a b sl t : Addr} {S' : SM} {j : Sh} {n : Int} (H3 : SI τ W.tr W.ro (W.m + 1) S') (ex : Ext W.S S') (hb : S' b = some j) (r3 : j.rows = []) (p3 : j.pro = if abv then some (W.st (W.m - 1)) else none) (o3 : j.op = true)
    (ha : σ.nxt ≤ a) (hs : σ.nxt ≤ sl) (ht : σ.nxt ≤ t) (la : a < τ.nxt) (ls : sl < τ.nxt) (lt : t < τ.nxt) (al : ∀ p, p ≠ a → τ.fld 2 p = σ.fld 2 p) (hL : ∀ x, x ≠ sl → τ.lst 1 x = σ.lst 1 x) (hD : ∀ x, x ≠ t → τ.dS 1 x = σ.dS 1 x)
    (g0 : τ.fld 2 a 0 = some (.int n)) (g13 : τ.fld 2 a 13 = some (.ref (.inst 1) W.tr)) (g14 : τ.fld 2 a 14 = some (shv b)) (g15 : τ.fld 2 a 15 = some (.ref (.lst 1) sl)) (g16 : τ.fld 2 a 16 = some (.ref (.dS 1) t)) (g17 : τ.fld 2 a 17 = some (.bool false)) (l0 : τ.lst 1 sl = []) (d0 : (τ.dS 1 t).1 = []) : BI τ (W.grow a b abv S') := by
  have st_ne : ∀ k, k < W.m → W.st k ≠ a := fun k hk => Nat.ne_of_lt (Nat.lt_of_lt_of_le (h.st k hk).lt ha)
  have nx : σ.nxt ≤ τ.nxt := Nat.le_trans ha (Nat.le_of_lt la)
  have lo : ∀ {k}, k < W.m + 1 → k ≠ W.m → k < W.m := fun h e => Nat.lt_of_le_of_ne (Nat.le_of_lt_succ h) e
  obtain ⟨i16, l16⟩ := one_more (K := fun t => .ref (.dS 1) t) (fun _ _ e => by cases e; rfl) al g16 ht lt h.i16 h.l16
  obtain ⟨i15, l15⟩ := one_more (K := fun t => .ref (.lst 1) t) (fun _ _ e => by cases e; rfl) al g15 hs ls h.i15 h.l15
  refine ⟨H3, fun k hk => ?_, fun k l hk hl z => ?_, i16, i15, l16, l15, fun k hk hab' => ?_, hm, fun p f v hp => ?_⟩
  · by_cases z : k = W.m
    · subst z
      have e2 : (W.grow a b abv S').A W.m = ⟨[], abv, true⟩ := if_pos rfl
      have ep : (W.grow a b abv S').pro W.m = if abv then some (W.st (W.m - 1)) else none := by
        unfold Wd.pro
        rw [e2]
        cases abv with
        | false => rfl
        | true => exact congrArg some (if_neg (Nat.ne_of_lt (Nat.sub_one_lt_of_lt (hab rfl))))
      rw [show (W.grow a b abv S').st W.m = a from if_pos rfl, e2, show (W.grow a b abv S').al W.m = false from if_pos rfl, show (W.grow a b abv S').sp W.m = b from if_pos rfl, ep]
      exact ⟨⟨n, g0⟩, g13, g17, ⟨t, g16⟩, la, GR3.nil, fun z => (nomatch z), fun _ => ⟨g14, ⟨j, hb, r3, o3, p3⟩, ⟨sl, g15, l0⟩, fun t' ht' => by rw [g16] at ht'; cases ht'; exact d0⟩⟩
    · have hk' : k < W.m := lo hk z
      have e2 : (W.grow a b abv S').A k = W.A k := if_neg z
      have ep : (W.grow a b abv S').pro k = W.pro k := by
        unfold Wd.pro
        rw [e2, show (W.grow a b abv S').st (k - 1) = W.st (k - 1) from if_neg (Nat.ne_of_lt (Nat.lt_of_le_of_lt (Nat.sub_le _ _) hk'))]
      rw [show (W.grow a b abv S').st k = W.st k from if_neg z, e2, show (W.grow a b abv S').al k = W.al k from if_neg z, show (W.grow a b abv S').sp k = W.sp k from if_neg z, ep]
      exact (h.st k hk').mono ex nx (al _ (st_ne k hk')) (fun t' ht' => hD _ (Nat.ne_of_lt (Nat.lt_of_lt_of_le (h.l16 _ t' ht') ht))) fun t' ht' => hL _ (Nat.ne_of_lt (Nat.lt_of_lt_of_le (h.l15 _ t' ht') hs))
  · have z : (if k = W.m then a else W.st k) = if l = W.m then a else W.st l := z
    by_cases zk : k = W.m <;> by_cases zl : l = W.m
    · rw [zk, zl]
    · rw [if_pos zk, if_neg zl] at z; exact absurd z.symm (st_ne l (lo hl zl))
    · rw [if_neg zk, if_pos zl] at z; exact absurd z (st_ne k (lo hk zk))
    · rw [if_neg zk, if_neg zl] at z; exact h.inj k l (lo hk zk) (lo hl zl) z
  · by_cases z : k = W.m
    · rw [show (W.grow a b abv S').A k = ⟨[], abv, true⟩ from if_pos z] at hab'
      rw [z]; exact hab hab'
    · rw [show (W.grow a b abv S').A k = W.A k from if_neg z] at hab'
      exact h.abv k (lo hk z) hab'
  · by_cases zp : p = a
    · rw [zp]; exact la
    · rw [al p zp] at hp
      exact Nat.lt_of_lt_of_le (h.l2 _ _ _ hp) nx
theorem sp_store_init {σ : H} {W : Wd} (h : BI σ W) (hm : W.m + 1 ≤ 4) {abv : Bool} (hab : abv = true → 0 < W.m) {v : V} (hv : v = proV (if abv then some (W.st (W.m - 1)) else none)) {Q : V → H → Prop}
    (q : ∀ σ' a sp S', BI σ' (W.grow a sp abv S') → FrB σ σ' → σ.nxt ≤ a → Q (stv a) σ') : fNew 2 F_Store_init [.ref (.inst 1) W.tr, v] σ Q := by
  intro a ha
  obtain ⟨md, hmd, m0, m1, m2⟩ := h.si.t11
  have hfl : ∀ p f v, σ.fld 2 p f = some v → p ≠ a := fun p f v hp => Nat.ne_of_lt (Nat.lt_of_lt_of_le (h.l2 p f v hp) ha)
  have hmd' : ((σ.newC 2 a).setF 2 a 13 (.ref (.inst 1) W.tr)).fld 1 W.tr 11 = some (.int md) := (setF_c (by decide)).trans ((congrFun (congrFun (newC_cl (by decide)) W.tr) 11).trans hmd)
  subst hv
  refine q_def rfl (q_putF (by walk_at "ev") (by walk_at "ev") (q_putFC (e_meth (by walk_at "ev") rfl El.nil (sp_next hmd' ?_))))
  refine q_cons (q_putFC (e_meth (by walk_at "ev") rfl (by walk_at "ev") ?_))
  generalize hσ2 : (((σ.newC 2 a).setF 2 a 13 (.ref (.inst 1) W.tr)).setF 1 W.tr 11 (.int (md + 1))).setF 2 a 0 (.int (md + 1)) = σ2
  have n2 : σ2.nxt = a + 1 := by rw [← hσ2]; rfl
  have c2 : ∀ c, c ≠ 1 → c ≠ 2 → σ2.fld c = σ.fld c := fun c h1 h2 => by rw [← hσ2]; exact (setF_cl h2).trans ((setF_cl h1).trans ((setF_cl h2).trans (newC_cl h2)))
  have al2 : ∀ p, p ≠ a → σ2.fld 2 p = σ.fld 2 p := fun p hp => by rw [← hσ2]; exact (setF_al hp).trans ((congrFun (setF_cl (by decide)) p).trans ((setF_al hp).trans (newC_al hp)))
  have a0 : σ2.fld 2 a 0 = some (.int (md + 1)) := by rw [← hσ2]; exact setF_at
  have a13 : σ2.fld 2 a 13 = some (.ref (.inst 1) W.tr) := by rw [← hσ2]; exact (setF_f (by decide)).trans ((setF_c (by decide)).trans setF_at)
  have r2 : σ2.lst = σ.lst ∧ σ2.dS = σ.dS ∧ σ2.dI = σ.dI ∧ σ2.dT = σ.dT := by rw [← hσ2]; exact ⟨rfl, rfl, rfl, rfl⟩
  have S2 : SI σ2 W.tr W.ro (W.m + 1) W.S := by
    refine h.si.reg1 hmd (fun n e => hfl a 0 _ e rfl) (by exact pc1) (c2 0 (by decide) (by decide)) (by rw [r2.2.2.1]) (by rw [r2.2.2.2]) (by rw [r2.2.1]) (fun f hf => ?_) ?_ (fun p hp => by rw [al2 p hp]) a0 (n2 ▸ Nat.le_succ_of_le ha)
    · rw [← hσ2]; exact (setF_c (by decide)).trans ((setF_f hf).trans ((setF_c (by decide)).trans (congrFun (congrFun (newC_cl (by decide)) W.tr) f)))
    · rw [← hσ2]; exact (setF_c (by decide)).trans setF_at
  obtain ⟨n, hn⟩ : ∃ n, pkey σ2 (if abv then some (W.st (W.m - 1)) else none) n := by
    cases abv with
    | false => exact ⟨0, rfl⟩
    | true =>
      have := hab rfl
      obtain ⟨n, hn⟩ := (h.st (W.m - 1) (by omega)).num
      exact ⟨n, (congrFun (al2 _ (hfl _ _ _ hn)) 0).trans hn⟩
  refine sp_root S2 hn fun σ3 S' b j H3 e3 F3 hb r3 p3 o3 => ?_
  clear hσ2
  have n3 : a + 1 ≤ σ3.nxt := n2 ▸ F3.nxt
  refine q_cons (q_putFC (e_list El.nil (Nat.le_of_ble_eq_true rfl) fun sl hsl => ?_))
  have hs : σ.nxt ≤ sl := Nat.le_trans ha (Nat.le_trans (Nat.le_of_succ_le n3) hsl)
  refine q_cons (q_putFC (e_dict0S fun t e ht => ?_))
  have ht : sl + 1 ≤ t := ht
  repeat (walk_at "st")
  refine ⟨rfl, gen_st (Q := Q (stv a)) fun τ hτ => ?_⟩
  have nx : τ.nxt = t + 1 := by rw [hτ]; rfl
  have cl : ∀ c, c ≠ 2 → τ.fld c = σ3.fld c := fun c hc => by rw [hτ]; exact (setF_cl hc).trans ((setF_cl hc).trans ((setF_cl hc).trans ((setF_cl hc).trans (fld_newS.trans ((setF_cl hc).trans (fld_newL.trans (setF_cl hc)))))))
  have al : ∀ p, p ≠ a → τ.fld 2 p = σ3.fld 2 p := fun p hp => by rw [hτ]; exact (setF_al hp).trans ((setF_al hp).trans ((setF_al hp).trans ((setF_al hp).trans ((congrFun fld_newS p).trans ((setF_al hp).trans ((congrFun fld_newL p).trans (setF_al hp)))))))
  have g17 : τ.fld 2 a 17 = some (.bool false) := by rw [hτ]; exact (setF_f (by decide)).trans ((setF_f (by decide)).trans setF_at)
  have lo : ∀ f, f ≠ 19 → f ≠ 18 → f ≠ 17 → f ≠ 16 → f ≠ 15 → τ.fld 2 a f = (σ3.setF 2 a 14 (shv b)).fld 2 a f := fun f h1 h2 h3 h4 h5 => by rw [hτ]; exact (setF_f h1).trans ((setF_f h2).trans ((setF_f h3).trans ((setF_f h4).trans ((congrFun (congrFun fld_newS a) f).trans ((setF_f h5).trans (congrFun (congrFun fld_newL a) f))))))
  have g16 : τ.fld 2 a 16 = some (.ref (.dS 1) t) := by rw [hτ]; exact (setF_f (by decide)).trans ((setF_f (by decide)).trans ((setF_f (by decide)).trans setF_at))
  have g15 : τ.fld 2 a 15 = some (.ref (.lst 1) sl) := by rw [hτ]; exact (setF_f (by decide)).trans ((setF_f (by decide)).trans ((setF_f (by decide)).trans ((setF_f (by decide)).trans ((congrFun (congrFun fld_newS a) 15).trans setF_at))))
  have L : τ.lst = (σ3.newL 1 sl []).lst := by rw [hτ]; rfl
  have D : τ.dS = (σ3.newS 1 t [] e).dS := by rw [hτ]; rfl
  have I : τ.dI = σ3.dI ∧ τ.dT = σ3.dT := by rw [hτ]; exact ⟨rfl, rfl⟩
  clear hτ
  have e3' : σ3.fld 2 = σ2.fld 2 := F3.eq
  have ht' := Nat.le_trans hs (Nat.le_of_succ_le ht)
  have nx3 : σ3.nxt ≤ τ.nxt := nx ▸ Nat.le_trans hsl (Nat.le_trans (Nat.le_of_succ_le ht) (Nat.le_succ t))
  have H4 : SI τ W.tr W.ro (W.m + 1) S' := by
    refine H3.eqv (cl 0 (by decide)) (cl 1 (by decide)) (fun p => ?_) (by rw [I.1]) (by rw [I.2]) (by rw [D]; exact newS_kl (by decide)) nx3
    by_cases z : p = a
    · rw [z]; exact (lo 0 (by decide) (by decide) (by decide) (by decide) (by decide)).trans (setF_f (by decide))
    · rw [al p z]
  refine q τ a b S' (h.grow hm hab H4 e3 hb r3 p3 o3 ha hs ht' (nx ▸ Nat.lt_succ_of_lt (Nat.lt_trans (Nat.lt_of_succ_le (Nat.le_trans n3 hsl)) ht)) (nx ▸ Nat.lt_succ_of_lt ht) (nx ▸ Nat.lt_succ_self t) (fun p hp => ?_) (fun x hx => ?_) (fun x hx => ?_) (n := md + 1) ?_ ?_ ?_ g15 g16 g17 ?_ ?_) ⟨Nat.le_trans ht' (nx ▸ Nat.le_succ t), fun c hc => ?_, fun k hk => ?_, fun k hk => ?_⟩ ha
  · rw [al p hp, e3', al2 p hp]
  · rw [L, newL_a hx, F3.lst 1 x (fun z => nomatch z), r2.1]
  · rw [D, newS_a hx, F3.dS 1 (Nat.le_refl _), r2.2.1]
  · exact (lo 0 (by decide) (by decide) (by decide) (by decide) (by decide)).trans ((setF_f (by decide)).trans (by rw [e3']; exact a0))
  · exact (lo 13 (by decide) (by decide) (by decide) (by decide) (by decide)).trans ((setF_f (by decide)).trans (by rw [e3']; exact a13))
  · exact (lo 14 (by decide) (by decide) (by decide) (by decide) (by decide)).trans setF_at
  · rw [L, newL_at]
  · rw [D, newS_at]
  · rw [cl c (by exact pc5), F3.fld c (by exact pc7), c2 c (by exact pc5) (by exact pc5)]
  · funext x
    rw [L, newL_k (by exact pc5), F3.lst k x (by omega), r2.1]
  · rw [D, newS_kl (by exact pc5), F3.dS k (by exact pc7), r2.2.1]
end
section
set_option linter.unusedSimpArgs false
set_option maxHeartbeats 4000000
set_option maxRecDepth 10000
set_option genInjectivity false in
structure Cx where
  W : Wd
  L : Lw
  lim : Int
  sa : Nat → Addr
  nt : Nat → Addr
  es : Nat → List En
  lost : Nat → Bool
  hi : Nat → Int
  mi : Nat → Int
  bx : Addr
  rA : Addr
  wA : Addr
  nA : Addr
noncomputable def cl (j : Nat) : Nat := if j < 3 then 4 else 5
noncomputable def key (j : Nat) : Str := if j % 3 = 0 then Str.ofString "a" else if j % 3 = 1 then Str.ofString "b" else Str.ofString "c"
theorem key_abc (j : Nat) : key j ∈ abc := by
  unfold key abc
  split
  · exact .head _
  · split
    · exact .tail _ (.head _)
    · exact .tail _ (.tail _ (.head _))
theorem cl4 (j : Nat) : 4 ≤ cl j := by unfold cl; split <;> omega
structure GI (σ : H) (C : Cx) : Prop where
  bi : BI σ C.W
  li : LI σ C.W C.L
  si : ∀ j, j < 6 → SiE σ C.W.S (cl j) (C.sa j) (key j) C.lim (C.es j) (C.lost j) (C.hi j) (C.mi j)
  ws : ∀ j, 3 ≤ j → j < 6 → EnWs σ C.W.S (key j) (C.es j)
  no : ∀ j, j < 6 → NoOk σ (C.nt j) ((C.es j).map (numE C.W.S)) (C.lost j)
  sinj : ∀ i j, i < 6 → j < 6 → cl i = cl j → C.sa i = C.sa j → i = j
  ninj : ∀ i j, i < 6 → j < 6 → C.nt i = C.nt j → i = j
  bx : BoxOk σ C.bx
  rA : σ.lst 8 C.rA = [.ref (.inst 4) (C.sa 0), .ref (.inst 4) (C.sa 1), .ref (.inst 4) (C.sa 2)]
  wA : σ.lst 8 C.wA = [.ref (.inst 5) (C.sa 3), .ref (.inst 5) (C.sa 4), .ref (.inst 5) (C.sa 5)]
  nA : σ.lst 9 C.nA = (List.range 6).map fun j => .ref (.dS 3) (C.nt j)
structure Cq (C C' : Cx) : Prop where
  m : C'.W.m = C.W.m
  owA : C'.L = C.L
  sa : C'.sa = C.sa
  nt : C'.nt = C.nt
  bx : C'.bx = C.bx
  rA : C'.rA = C.rA
  wA : C'.wA = C.wA
  nA : C'.nA = C.nA
theorem SiE.mono {σ σ' : H} {S S' : SM} {c : Nat} {s : Addr} {x : Str} {lim : Int} {es : List En} {lost : Bool} {hi mi : Int} (h : SiE σ S c s x lim es lost hi mi) (E : Ext S S') (hn : σ.nxt ≤ σ'.nxt) (hf : σ'.fld c s = σ.fld c s) (f3 : ∀ a, a < σ.nxt → σ'.fld 3 a = σ.fld 3 a) (l3 : ∀ a, a < σ.nxt → σ'.lst 3 a = σ.lst 3 a) (l4 : ∀ a, a < σ.nxt → σ'.lst 4 a = σ.lst 4 a) : SiE σ' S' c s x lim es lost hi mi :=
  ⟨h.ok.mono hf hn l4, fun e he => (h.en e he).mono E hn f3 l3, h.len, h.l3, h.lo⟩
theorem GI.frH {σ σ' : H} {C : Cx} (h : GI σ C) (F : FrH σ σ') {W' : Wd} {k : Nat} (st : Step C.W W' k) (bi : BI σ' W') (li : LI σ' W' C.L) (bx : BoxOk σ' C.bx) : GI σ' { C with W := W' } where
  bi := bi
  li := li
  si := fun j hj => (h.si j hj).mono st.ext F.nxt (by rw [F.fld _ (Nat.le_trans (by decide) (cl4 j))]) (fun a _ => by rw [F.fld 3 (by decide)]) (fun a _ => by rw [F.lst 3 (by decide)]) (fun a _ => by rw [F.lst 4 (by decide)])
  ws := fun j h3 hj e he => (h.ws j h3 hj e he).mono st.ext (by rw [F.fld 3 (by decide)])
  no := fun j hj => by
    show NoOk σ' (C.nt j) ((C.es j).map (numE W'.S)) (C.lost j)
    rw [numE_ext st.ext (h.si j hj).en]
    exact (h.no j hj).mono (by rw [F.d3]) (fun a _ => by rw [F.lst 10 (by decide)]) F.nxt
  sinj := h.sinj
  ninj := h.ninj
  bx := bx
  rA := by rw [F.lst 8 (by decide)]; exact h.rA
  wA := by rw [F.lst 8 (by decide)]; exact h.wA
  nA := by rw [F.lst 9 (by decide)]; exact h.nA
noncomputable def upj {α : Type} (f : Nat → α) (j : Nat) (v : α) : Nat → α := fun i => if i = j then v else f i
theorem upj_self {α : Type} {f : Nat → α} {j : Nat} {v : α} : upj f j v j = v := if_pos rfl
theorem upj_ne {α : Type} {f : Nat → α} {i j : Nat} {v : α} (h : i ≠ j) : upj f j v i = f i := if_neg h
noncomputable def Cx.turn (C : Cx) (W' : Wd) (j : Nat) (es : List En) (lost : Bool) (hi mi : Int) : Cx :=
  { C with W := W', es := upj C.es j es, lost := upj C.lost j lost, hi := upj C.hi j hi, mi := upj C.mi j mi }
theorem GI.turn {σ σ' : H} {C : Cx} (h : GI σ C) {j : Nat} (hj : j < 6) (F : FrG σ σ' (cl j) (C.sa j) (C.nt j)) {W' : Wd} {k : Nat} (st : Step C.W W' k) (bi : BI σ' W') (li : LI σ' W' C.L) {es : List En} {lost : Bool} {hi mi : Int} (hs : SiE σ' W'.S (cl j) (C.sa j) (key j) C.lim es lost hi mi) (hw : 3 ≤ j → EnWs σ' W'.S (key j) es) (hn : NoOk σ' (C.nt j) (es.map (numE W'.S)) lost) : GI σ' (C.turn W' j es lost hi mi) where
  bi := bi
  li := li
  si := fun i hi' => by
    by_cases e : i = j
    · subst e
      simp only [Cx.turn, upj_self]; exact hs
    · simp only [Cx.turn, upj_ne e]
      exact (h.si i hi').mono st.ext F.nxt (F.fld _ _ (cl4 i) fun z => e (h.sinj i j hi' hj z.1 z.2)) F.f3 F.l3 F.l4
  ws := fun i h3 hi' => by
    by_cases e : i = j
    · subst e
      simp only [Cx.turn, upj_self]; exact hw h3
    · simp only [Cx.turn, upj_ne e]
      exact fun e' he => (h.ws i h3 hi' e' he).mono st.ext (F.f3 _ ((h.si i hi').en e' he).lt)
  no := fun i hi' => by
    by_cases e : i = j
    · subst e
      simp only [Cx.turn, upj_self]; exact hn
    · simp only [Cx.turn, upj_ne e]
      rw [numE_ext st.ext (h.si i hi').en]
      exact (h.no i hi').mono (F.d3 _ fun z => e (h.ninj i j hi' hj z)) F.l10 F.nxt
  sinj := h.sinj
  ninj := h.ninj
  bx := h.bx.mono (F.lst 11 (by decide)) (F.lst 12 (by decide))
  rA := by rw [F.lst 8 (by decide)]; exact h.rA
  wA := by rw [F.lst 8 (by decide)]; exact h.wA
  nA := by rw [F.lst 9 (by decide)]; exact h.nA
noncomputable abbrev turnB : S1 := (sCons (sSwap3 (pTup (eCons (pCall F_law_take (eCons (pV 1) (eCons (pV 3) eNil))) (eCons (pCall F_law_take (eCons (pV 1) (eCons (pK (.int 3)) eNil))) (eCons (pCall F_law_take (eCons (pV 1) (eCons (pK (.int 8)) eNil))) eNil)))) 8 14 15) (sCons (sIf (tAnd [(tCmp fLt (pV 15) (pK (.int 3))), (tNot (tVal (pCall F_law_read_right (eCons (pV 6) (eCons (pV 7) (eCons (pV 8) (eCons (pSub (pV 10) (pV 14)) (eCons (pSub (pV 12) (pV 14)) eNil))))))))]) (sCons (sRet (pK (.bool false))) sNil) sNil) (sCons (sIf (tAnd [(tCmp2 fLe fLt (pK (.int 3)) (pV 15) (pK (.int 5))), (tNot (tVal (pCall F_law_write_right (eCons (pV 6) (eCons (pV 7) (eCons (pV 8) (eCons (pSub (pV 11) (pV 14)) (eCons (pSub (pV 12) (pBin fAdd (pK (.int 3)) (pV 14))) (eCons (pCall F_law_take (eCons (pV 1) (eCons (pK (.int 9)) eNil))) eNil)))))))))]) (sCons (sRet (pK (.bool false))) sNil) sNil) (sCons (sIf (tCmp fGe (pV 15) (pK (.int 5))) (sCons (sExpr (pCall F_law_change (eCons (pV 1) (eCons (pV 6) (eCons (pV 7) (eCons (pV 8) (eCons (pSub (pTup (eCons (pK (.str (Str.ofString "a"))) (eCons (pK (.str (Str.ofString "b"))) (eCons (pK (.str (Str.ofString "c"))) eNil)))) (pV 14)) eNil))))))) sNil) sNil) (sCons (sIf (tNot (tVal (pCall F_law_all_right (eCons (pV 6) (eCons (pV 7) eNil))))) (sCons (sRet (pK (.bool false))) sNil) sNil) sNil)))))
noncomputable def lawLs (C : Cx) (l0 l2 l4 l5 l8 l9 l13 l14 l15 : Option V) : Ls :=
  [l0, some (.ref (.lst 11) C.bx), l2, some (.int C.W.m), l4, l5, some (.ref (.lst 5) C.L.owA), some (.ref (.lst 6) C.L.stA), l8, l9, some (.ref (.lst 8) C.rA), some (.ref (.lst 8) C.wA), some (.ref (.lst 9) C.nA), l13, l14, l15]
theorem Cq.ls {C C' : Cx} (h : Cq C C') {l0 l2 l4 l5 l8 l9 l13 l14 l15 : Option V} : lawLs C' l0 l2 l4 l5 l8 l9 l13 l14 l15 = lawLs C l0 l2 l4 l5 l8 l9 l13 l14 l15 := by
  unfold lawLs; rw [h.bx, h.m, h.owA, h.rA, h.wA, h.nA]
theorem Et.c2 {t1 t2 t3 : E1} {ls : Ls} {σ : H} {n m l : Int} {bb : Bool} (h1 : Ev t1 ls σ (.int n)) (h2 : Ev t2 ls σ (.int m)) (h3 : Ev t3 ls σ (.int l)) (e : (decide (n ≤ m) && decide (m < l)) = bb) : Et (tCmp2 fLe fLt t1 t2 t3) ls σ bb := fun Q q => h1 _ (h2 _ (by
  subst e
  refine ⟨fun z => h3 _ ?_, fun z => ?_⟩
  · rw [z] at q; exact q
  · rw [z] at q; exact q))
theorem c3 {j : Nat} (h : j < 3) : j = 0 ∨ j = 1 ∨ j = 2 := by omega
theorem sp_turn {σ : H} {C : Cx} (h : GI σ C) (hm : 0 < C.W.m) {l0 l2 l4 l5 l8 l9 l13 l14 l15 : Option V} {Q : Fl → Ls → H → Prop}
    (q : ∀ σ' C' l8 l14 l15, GI σ' C' → Cq C C' → Q .next (lawLs C l0 l2 l4 l5 l8 l9 l13 l14 l15) σ') : turnB (lawLs C l0 l2 l4 l5 l8 l9 l13 l14 l15) σ Q := by
  have hm4 := h.bi.m4
  unfold lawLs
  refine q_swap3C (e_tup (el_cons (e_call (by walk_at "ev") (sp_take h.bx (by omega) fun σ1 at' F1 x1 a0 a1 => el_cons (e_call (by walk_at "ev") (sp_take x1 (by decide) fun σ2 spot F2 x2 s0 s1 => el_cons (e_call (by walk_at "ev") (sp_take x2 (by decide) fun σ3 form F3 x3 f0 f1 => el_val El.nil (k_tup3 (k_sw3 ?_))))))))))
  have FK := (F1.trans F2).trans F3
  have h3 : GI σ3 C := h.frH FK.h (.refl C.W 0) (FK.bi h.bi) (FK.li h.li) x3
  clear FK F1 F2 F3 x1 x2 x3 h
  obtain ⟨k, rfl⟩ : ∃ k : Nat, at' = k := ⟨at'.toNat, by exact pb15⟩
  obtain ⟨j, rfl⟩ : ∃ j : Nat, spot = j := ⟨spot.toNat, by exact pb15⟩
  have hk : k < C.W.m := by exact pb16
  have hj : j < 3 := by omega
  have last : ∀ σ4 C4, GI σ4 C4 → Cq C C4 → (sCons (sIf (tNot (tVal (pCall F_law_all_right (eCons (pV 6) (eCons (pV 7) eNil))))) (sCons (sRet (pK (.bool false))) sNil) sNil) sNil) (lawLs C l0 l2 l4 l5 (some (.int k)) l9 l13 (some (.int j)) (some (.int form))) σ4 Q := fun σ4 C4 h4 c4 => by
    unfold lawLs
    rw [← c4.owA]
    refine q_ifC (d_not (d_tval (e_call (by walk_at "ev") (sp_all_right h4.li h4.bi fun σ5 F5 b5 li5 => k_iff (q_nil ?_)))))
    have := q σ5 C4 (some (.int k)) (some (.int j)) (some (.int form)) (h4.frH F5.h (.refl C4.W 0) b5 li5 (h4.bx.mono (F5.lst 11 (by decide)) (F5.lst 12 (by decide)))) c4
    rw [← c4.ls] at this
    unfold lawLs at this
    rw [c4.bx, c4.m, c4.rA, c4.wA, c4.nA] at this
    exact this
  unfold lawLs at last
  have jb : (0 : Int) ≤ j ∧ (j : Int) < 1000 := ⟨by assumption, by exact pc11⟩
  by_cases c3' : form < 3
  · have rd : (σ3.lst 8 C.rA)[((j : Nat) : Int).toNat]? = some (.ref (.inst 4) (C.sa j)) := by
      rw [h3.rA]
      rcases c3 hj with rfl | rfl | rfl <;> rfl
    have nr : (σ3.lst 9 C.nA)[((j : Nat) : Int).toNat]? = some (.ref (.dS 3) (C.nt j)) := by rw [h3.nA]; exact range_get (by omega)
    have cj : cl j = 4 := if_pos hj
    have s0 := h3.si j (by exact pc2)
    rw [cj] at s0
    refine q_ifC (d_at (by walk_at "ev") (d_and (d_not (d_tval (e_call (by walk_at "ev") (sp_read_right h3.li h3.bi hk s0 (h3.no j (by exact pc2)) fun σ4 es' lost' hi' mi' G4 b4 l4 s4 n4 => b_f (k_iff (q_nil ?_))))))))
    have g4 := h3.turn (j := j) (by exact pc2) (cj ▸ G4) (.refl C.W 0) b4 l4 (cj ▸ s4) (fun z => by omega) n4
    refine q_iff (Et.af (Et.c2 Ev.con (by walk_at "ev") Ev.con (by rw [decide_eq_false (by omega)]; rfl))) (q_nil ?_)
    repeat (walk_at "st")
    exact last σ4 _ g4 ⟨rfl, rfl, rfl, rfl, rfl, rfl, rfl, rfl⟩
  · refine q_iff (Et.af (by walk_at "ev")) (q_nil ?_)
    by_cases c5 : form < 5
    · have e3 : ((3 : Int) + j).toNat = 3 + j := by omega
      refine q_ifC (d_at (Et.c2 Ev.con (by walk_at "ev") Ev.con (by rw [decide_eq_true (by exact pb8), decide_eq_true c5]; rfl)) (d_and (d_not (d_tval (e_callC (el_consV (by walk_at "ev") (el_consV (by walk_at "ev") (el_consV (by walk_at "ev") (el_consV (v := .ref (.inst 5) (C.sa (3 + j))) (Ev.subL (by walk_at "ev") (by walk_at "ev") jb ?_) (el_consV (v := .ref (.dS 3) (C.nt (3 + j))) (Ev.subL (by walk_at "ev") (by walk_at "ev") ⟨by exact pc15, by exact pc17⟩ ?_) (el_cons (e_call (by walk_at "ev") (sp_take h3.bx (by decide) fun σ4 vl F4 x4 v0 v1 => ?_)))))))))))))
      · rw [h3.wA]
        rcases c3 hj with rfl | rfl | rfl <;> rfl
      · rw [h3.nA, e3]; exact range_get (by omega)
      have h4 : GI σ4 C := h3.frH F4.h (.refl C.W 0) (F4.bi h3.bi) (F4.li h3.li) x4
      have cj : cl (3 + j) = 5 := if_neg (by omega)
      have s0 := h4.si (3 + j) (by omega)
      rw [cj] at s0
      refine el_val El.nil (e_cal (sp_write_right h4.li h4.bi hk (key_abc _) s0 (h4.ws (3 + j) (by omega) (by omega)) (h4.no (3 + j) (by omega)) fun σ5 W5 es' lost' hi' mi' G5 b5' l5' st5 s5 w5 n5 => b_f (k_iff (q_nil ?_))))
      have g5 := h4.turn (j := 3 + j) (by omega) (cj ▸ G5) st5 b5' l5' (cj ▸ s5) (fun _ => w5) n5
      repeat (walk_at "st")
      exact last σ5 _ g5 ⟨st5.m, rfl, rfl, rfl, rfl, rfl, rfl, rfl⟩
    · refine q_iff (Et.af (Et.c2 Ev.con (by walk_at "ev") Ev.con (by rw [decide_eq_false c5, Bool.and_false]))) (q_nil ?_)
      have e : vsv (.p3 (.str (Str.ofString "a")) (.str (Str.ofString "b")) (.str (Str.ofString "c"))) (.int j) = some (.str (key j)) := by
        rcases c3 hj with rfl | rfl | rfl <;> rfl
      refine q_ift (by walk_at "ev") (q_cons (q_expr (e_call (El.cons (by walk_at "ev") (El.cons (by walk_at "ev") (El.cons (by walk_at "ev") (El.cons (by walk_at "ev") (El.cons (Ev.psub (by walk_at "ev") (by walk_at "ev") e) El.nil))))) (sp_change h3.li h3.bi h3.bx hk (key_abc j) fun σ4 W4 F4 x4 b4 l4' st4 => q_nil ?_))))
      exact last σ4 _ (h3.frH F4 st4 b4 l4' x4) ⟨st4.m, rfl, rfl, rfl, rfl, rfl, rfl, rfl⟩
end
section
set_option linter.unusedSimpArgs false
set_option maxHeartbeats 4000000
set_option maxRecDepth 10000
structure FrI (σ σ' : H) : Prop where
  nxt : σ.nxt ≤ σ'.nxt
  fld : ∀ c, c < 4 → σ'.fld c = σ.fld c
  f4 : ∀ c a, a < σ.nxt → σ'.fld c a = σ.fld c a
  lst : ∀ k, k ≠ 4 → k ≠ 10 → k ≠ 8 → k ≠ 9 → σ'.lst k = σ.lst k
  l4 : ∀ k a, a < σ.nxt → σ'.lst k a = σ.lst k a
  dS : ∀ k, k ≠ 3 → σ'.dS k = σ.dS k
  d3 : ∀ a, a < σ.nxt → σ'.dS 3 a = σ.dS 3 a
  dI : σ'.dI = σ.dI
  dT : σ'.dT = σ.dT
theorem FrI.refl (σ : H) : FrI σ σ := ⟨Nat.le_refl _, fun _ _ => rfl, fun _ _ _ => rfl, fun _ _ _ _ _ => rfl, fun _ _ _ => rfl, fun _ _ => rfl, fun _ _ => rfl, rfl, rfl⟩
theorem FrI.trans {a b c : H} (x : FrI a b) (y : FrI b c) : FrI a c :=
  ⟨Nat.le_trans x.nxt y.nxt, fun c h => (y.fld c h).trans (x.fld c h), fun c p h => (y.f4 c p (Nat.lt_of_lt_of_le h x.nxt)).trans (x.f4 c p h), fun k h1 h2 h3 h4 => (y.lst k h1 h2 h3 h4).trans (x.lst k h1 h2 h3 h4), fun k p h => (y.l4 k p (Nat.lt_of_lt_of_le h x.nxt)).trans (x.l4 k p h), fun k h => (y.dS k h).trans (x.dS k h), fun p h => (y.d3 p (Nat.lt_of_lt_of_le h x.nxt)).trans (x.d3 p h), y.dI.trans x.dI, y.dT.trans x.dT⟩
theorem FrI.res {σ : H} {a : Addr} (ha : σ.nxt ≤ a) : FrI σ (σ.res a) := ⟨Nat.le_succ_of_le ha, fun _ _ => rfl, fun _ _ _ => rfl, fun _ _ _ _ _ => rfl, fun _ _ _ => rfl, fun _ _ => rfl, fun _ _ => rfl, rfl, rfl⟩
theorem k89 {k k' : Nat} (hk : k = 4 ∨ k = 10 ∨ k = 8 ∨ k = 9) (h1 : k' ≠ 4) (h2 : k' ≠ 10) (h3 : k' ≠ 8) (h4 : k' ≠ 9) : k' ≠ k := by
  rcases hk with rfl | rfl | rfl | rfl
  · exact h1
  · exact h2
  · exact h3
  · exact h4
theorem lt_ne {b n a : Nat} (h : b < n) (ha : n ≤ a) : b ≠ a := Nat.ne_of_lt (Nat.lt_of_lt_of_le h ha)
theorem c4 {c c' : Nat} (hc : 4 ≤ c) (h : c' < 4) : c' ≠ c := Nat.ne_of_lt (Nat.lt_of_lt_of_le h hc)
theorem FrI.setL {σ0 σ : H} (F : FrI σ0 σ) {k : Nat} {a : Addr} {l : List V} (hk : k = 4 ∨ k = 10 ∨ k = 8 ∨ k = 9) (ha : σ0.nxt ≤ a) : FrI σ0 (σ.setL k a l) :=
  ⟨F.nxt, F.fld, F.f4, fun k' h1 h2 h3 h4 => (setL_kl (k89 hk h1 h2 h3 h4)).trans (F.lst k' h1 h2 h3 h4), fun k' b hb => (setL_a (lt_ne hb ha)).trans (F.l4 k' b hb), F.dS, F.d3, F.dI, F.dT⟩
theorem FrI.newL {σ : H} {k : Nat} {a : Addr} {l : List V} (hk : k = 4 ∨ k = 10 ∨ k = 8 ∨ k = 9) (ha : σ.nxt ≤ a) : FrI σ (σ.newL k a l) :=
  ⟨Nat.le_succ_of_le ha, fun _ _ => rfl, fun _ _ _ => rfl, fun k' h1 h2 h3 h4 => newL_kl (k89 hk h1 h2 h3 h4), fun k' b hb => newL_a (lt_ne hb ha), fun _ _ => rfl, fun _ _ => rfl, rfl, rfl⟩
theorem FrI.newC {σ : H} {c : Nat} (hc : 4 ≤ c) {a : Addr} (ha : σ.nxt ≤ a) : FrI σ (σ.newC c a) :=
  ⟨Nat.le_succ_of_le ha, fun c' hc' => newC_cl (c4 hc hc'), fun c' b hb => newC_al (lt_ne hb ha), fun _ _ _ _ _ => rfl, fun _ _ _ => rfl, fun _ _ => rfl, fun _ _ => rfl, rfl, rfl⟩
theorem FrI.setF {σ0 σ : H} (F : FrI σ0 σ) {c : Nat} (hc : 4 ≤ c) {a : Addr} {f : Nat} {v : V} (ha : σ0.nxt ≤ a) : FrI σ0 (σ.setF c a f v) :=
  ⟨F.nxt, fun c' hc' => (setF_cl (c4 hc hc')).trans (F.fld c' hc'), fun c' b hb => (setF_al (lt_ne hb ha)).trans (F.f4 c' b hb), F.lst, F.l4, F.dS, F.d3, F.dI, F.dT⟩
theorem FrI.setS {σ0 σ : H} (F : FrI σ0 σ) {a : Addr} {l : List (Str × V)} {e : Nat} (ha : σ0.nxt ≤ a) : FrI σ0 (σ.setS 3 a l e) :=
  ⟨F.nxt, F.fld, F.f4, F.lst, F.l4, fun k hk => (setS_kl hk).trans (F.dS k hk), fun b hb => (setS_a (lt_ne hb ha)).trans (F.d3 b hb), F.dI, F.dT⟩
theorem FrI.bi {σ σ' : H} (F : FrI σ σ') {W : Wd} (h : BI σ W) : BI σ' W :=
  h.eqv (fun c hc => F.fld c (by exact pc2)) (F.lst 1 (by decide) (by decide) (by decide) (by decide)) (F.dS 0 (by decide)) (F.dS 1 (by decide)) (by rw [F.dI]) (by rw [F.dT]) F.nxt
theorem FrI.li {σ σ' : H} (F : FrI σ σ') {W : Wd} {L : Lw} (h : LI σ W L) : LI σ' W L :=
  h.eqv (F.lst 5 (by decide) (by decide) (by decide) (by decide)) (F.lst 6 (by decide) (by decide) (by decide) (by decide)) (F.lst 7 (by decide) (by decide) (by decide) (by decide)) (F.dS 2 (by decide)) F.nxt
theorem FrI.bx {σ σ' : H} (F : FrI σ σ') {b : Addr} (h : BoxOk σ b) : BoxOk σ' b := h.mono (F.lst 11 (by decide) (by decide) (by decide) (by decide)) (F.lst 12 (by decide) (by decide) (by decide) (by decide))
theorem FrI.sie {σ σ' : H} (F : FrI σ σ') {S : SM} {c : Nat} {s : Addr} {x : Str} {lim : Int} {es : List En} {lost : Bool} {hi mi : Int} (h : SiE σ S c s x lim es lost hi mi) : SiE σ' S c s x lim es lost hi mi :=
  h.mono (.refl _) F.nxt (F.f4 _ _ h.ok.lt) (fun a ha => F.f4 3 a ha) (fun a ha => F.l4 3 a ha) fun a ha => F.l4 4 a ha
theorem FrI.no {σ σ' : H} (F : FrI σ σ') {nt : Addr} (hn : nt < σ.nxt) {nums : List Int} {lost : Bool} (h : NoOk σ nt nums lost) : NoOk σ' nt nums lost := h.mono (F.d3 nt hn) (fun a ha => F.l4 10 a ha) F.nxt
theorem sp_site_init {σ : H} {c : Nat} (hc : 4 ≤ c) {x : Str} {lim : Int} (h0 : 0 ≤ lim) (h3 : lim ≤ 3) {Q : V → H → Prop} (q : ∀ s σ', σ.nxt ≤ s → s < σ'.nxt → (∀ S, SiE σ' S c s x lim [] false 0 0) → FrI σ σ' → Q (.ref (.inst c) s) σ') : fNew c F_Site_init [.str x, .int lim] σ Q := by
  intro s hs
  refine q_def rfl ?_
  repeat (walk_at "st")
  refine q_putFC (e_list El.nil (Nat.zero_le _) fun E hE => ?_)
  have hE' : σ.nxt ≤ E := Nat.le_trans hs (Nat.le_of_succ_le hE)
  have F0 := (((FrI.newC hc hs).setF hc (f := 3) (v := .str x) hs).setF hc (f := 10) (v := .int lim) hs)
  have F1 := F0.trans (FrI.newL (l := []) (.inl rfl) hE)
  have F := (((F1.setF hc (f := 23) (v := .ref (.lst 4) E) hs).setF hc (f := 24) (v := .bool false) hs).setF hc (f := 25) (v := .int 0) hs).setF hc (f := 26) (v := .int 0) hs
  repeat (walk_at "st")
  have lt : s < E + 1 := Nat.lt_of_lt_of_le (Nat.lt_succ_self s) (Nat.le_succ_of_le hE)
  refine ⟨rfl, q s _ hs lt (fun S => ⟨⟨?_, ?_, ⟨E, ?_, Nat.lt_succ_self _, ?_⟩, ?_, ?_, ?_, lt, Nat.zero_le _, h0⟩, fun _ h => (nomatch h), h0, h3, fun _ => rfl⟩) F⟩
  · exact (setF_f (by decide)).trans ((setF_f (by decide)).trans ((setF_f (by decide)).trans ((setF_f (by decide)).trans ((congrFun (congrFun fld_newL s) 3).trans ((setF_f (by decide)).trans setF_at)))))
  · exact (setF_f (by decide)).trans ((setF_f (by decide)).trans ((setF_f (by decide)).trans ((setF_f (by decide)).trans ((congrFun (congrFun fld_newL s) 10).trans setF_at))))
  · exact (setF_f (by decide)).trans ((setF_f (by decide)).trans ((setF_f (by decide)).trans setF_at))
  · exact if_pos ⟨rfl, rfl⟩
  · exact (setF_f (by decide)).trans ((setF_f (by decide)).trans setF_at)
  · exact (setF_f (by decide)).trans setF_at
  · exact setF_at
theorem cl_go {nc i : Nat} {elt : E1} {v : V} {vl acc : List V} {ik : IK} {ls : Ls} {σ : H} {CL : List V → H → Prop} (e : (ls.set i (some v)).take nc = ls.take nc) (q : elt (ls.set i (some v)) σ fun w σ3 => (acc.length ≤ 1000 ∧ ik.adv.items σ3 = vl ∧ ik.same σ σ3) ∧ compL nc (aVar i) tTrue elt vl ik.adv (ls.set i (some v)) (acc ++ [w]) σ3 CL) : compL nc (aVar i) tTrue elt (v :: vl) ik ls acc σ CL := ⟨e, fun _ => q, fun z => (nomatch z)⟩
theorem sites_comp {c : Nat} (hc : 4 ≤ c) {lim : Int} (h0 : 0 ≤ lim) (h3 : lim ≤ 3) {σ : H} {ik : V} {Q : List V → H → Prop}
    (q : ∀ σ' s0 s1 s2, FrI σ σ' → (σ.nxt ≤ s0 ∧ s0 < s1 ∧ s1 < s2) → (∀ S, SiE σ' S c s0 (key 0) lim [] false 0 0) → (∀ S, SiE σ' S c s1 (key 1) lim [] false 0 0) → (∀ S, SiE σ' S c s2 (key 2) lim [] false 0 0) → Q [.ref (.inst c) s0, .ref (.inst c) s1, .ref (.inst c) s2] σ') :
    compL 1 (aVar 1) tTrue (pCall (fNew c F_Site_init) (eCons (pV 1) (eCons (pV 0) eNil))) [.str (Str.ofString "a"), .str (Str.ofString "b"), .str (Str.ofString "c")] (.tup [.str (Str.ofString "a"), .str (Str.ofString "b"), .str (Str.ofString "c")] 0) [some (.int lim), none] [] σ Q := by
  refine cl_go rfl (e_call (by walk_at "ev") (sp_site_init hc h0 h3 fun s0 σ1 g0 k0 e0 F0 => ⟨⟨Nat.le_of_ble_eq_true rfl, rfl, trivial⟩, ?_⟩))
  refine cl_go rfl (e_call (by walk_at "ev") (sp_site_init hc h0 h3 fun s1 σ2 g1 k1 e1 F1 => ⟨⟨Nat.le_of_ble_eq_true rfl, rfl, trivial⟩, ?_⟩))
  refine cl_go rfl (e_call (by walk_at "ev") (sp_site_init hc h0 h3 fun s2 σ3 g2 k2 e2 F2 => ⟨⟨Nat.le_of_ble_eq_true rfl, rfl, trivial⟩, ?_⟩))
  have l01 : s0 < s1 := Nat.lt_of_lt_of_le k0 g1
  have l12 : s1 < s2 := Nat.lt_of_lt_of_le k1 g2
  exact q σ3 s0 s1 s2 ((F0.trans F1).trans F2) ⟨g0, l01, l12⟩ (fun S => (F1.trans F2).sie (e0 S)) (fun S => F2.sie (e1 S)) e2
def Inc : Nat → List Nat → Prop
  | _, [] => True
  | a, b :: l => a ≤ b ∧ Inc (b + 1) l
theorem Inc.mono {a b : Nat} {l : List Nat} (h : Inc b l) (hab : a ≤ b) : Inc a l := by
  cases l with
  | nil => trivial
  | cons c l => exact ⟨Nat.le_trans hab h.1, h.2⟩
theorem Inc.le {l : List Nat} : ∀ {a : Nat}, Inc a l → ∀ i, i < l.length → a ≤ l.getD i 0 := by
  induction l with
  | nil => intro a _ i hi; exact absurd hi (Nat.not_lt_zero i)
  | cons b l ih =>
    intro a h i hi
    cases i with
    | zero => exact h.1
    | succ i => exact Nat.le_trans h.1 (Nat.le_of_succ_le (ih h.2 i (Nat.lt_of_succ_lt_succ hi)))
theorem Inc.inj {l : List Nat} : ∀ {a : Nat}, Inc a l → ∀ i j, i < l.length → j < l.length → l.getD i 0 = l.getD j 0 → i = j := by
  induction l with
  | nil => intro a _ i j hi; exact absurd hi (Nat.not_lt_zero i)
  | cons b l ih =>
    intro a h i j hi hj e
    cases i with
    | zero =>
      cases j with
      | zero => rfl
      | succ j => exact absurd (h.2.le j (Nat.lt_of_succ_lt_succ hj)) (by rw [show l.getD j 0 = b from e.symm]; exact Nat.not_succ_le_self b)
    | succ i =>
      cases j with
      | zero => exact absurd (h.2.le i (Nat.lt_of_succ_lt_succ hi)) (by rw [show l.getD i 0 = b from e]; exact Nat.not_succ_le_self b)
      | succ j => exact congrArg Nat.succ (ih h.2 i j (Nat.lt_of_succ_lt_succ hi) (Nat.lt_of_succ_lt_succ hj) e)
theorem notes_loop (n : Nat) : ∀ (x : Int) (σ : H) (acc : List V) (l0 : Option V) (Q : List V → H → Prop), acc.length + n ≤ 900 →
    (∀ σ' (nts : List Addr), nts.length = n → Inc σ.nxt nts → (∀ t ∈ nts, NoOk σ' t [] false) → FrI σ σ' → Q (acc ++ nts.map fun t => .ref (.dS 3) t) σ') →
    compL 0 (aVar 0) tTrue (pDictS 3 [(Str.ofString "shapes"), (Str.ofString "lost")] (eCons (pList 10 eNil) (eCons (pK (.bool false)) eNil))) (rngV x n) (.rng x n) [l0] acc σ Q := by
  induction n with
  | zero =>
    intro x σ acc l0 Q hl q
    have := q σ [] rfl trivial (fun _ h => nomatch h) (.refl _)
    rw [List.map_nil, List.append_nil] at this
    exact this
  | succ n ih =>
    intro x σ acc l0 Q hl q
    refine cl_go rfl fun t ht => el_cons (e_list El.nil (Nat.zero_le _) fun L hL => el_val (by walk_at "ev") ⟨Nat.lt_of_lt_of_le (Nat.lt_succ_self t) (Nat.le_succ_of_le hL), fun e => ⟨⟨by exact pc9, rfl, trivial⟩, ?_⟩⟩)
    have hL' : σ.nxt ≤ L := Nat.le_trans ht (Nat.le_of_succ_le hL)
    have F := ((FrI.res ht).trans (FrI.newL (l := []) (.inr (.inl rfl)) hL)).setS (l := [(sShapes, .ref (.lst 10) L), (sLost, .bool false)]) (e := e) ht
    have N : NoOk (((σ.res t).newL 10 L []).setS 3 t [(sShapes, .ref (.lst 10) L), (sLost, .bool false)] e) t [] false := ⟨L, by rw [setS_at]; rfl, Nat.lt_succ_self _, if_pos ⟨rfl, rfl⟩⟩
    have lt1 : t < (((σ.res t).newL 10 L []).setS 3 t [(sShapes, .ref (.lst 10) L), (sLost, .bool false)] e).nxt := Nat.lt_of_lt_of_le (Nat.lt_succ_self t) (Nat.le_succ_of_le hL)
    refine ih (x + 1) (((σ.res t).newL 10 L []).setS 3 t [(sShapes, .ref (.lst 10) L), (sLost, .bool false)] e) (acc ++ [.ref (.dS 3) t]) (some (.int x)) Q (by rw [List.length_append, List.length_singleton]; exact pb2) fun σ' nts h1 h2 h3 F' => ?_
    have := q σ' (t :: nts) (congrArg (· + 1) h1) ⟨ht, h2.mono lt1⟩ (fun u hu => ?_) (F.trans F')
    · rw [List.append_assoc]; exact this
    · rcases List.mem_cons.mp hu with rfl | hu
      · exact F'.no lt1 N
      · exact h3 u hu
end
section
set_option linter.unusedSimpArgs false
set_option maxHeartbeats 4000000
set_option maxRecDepth 10000
theorem int_loop {b : Addr} (r : List Int) : ∀ (pre : List Int) (σ : H) (acc : List V) (l0 : Option V) (Q : List V → H → Prop), σ.lst 12 b = (pre ++ r).map .int → acc.length + r.length ≤ 900 → Q (acc ++ r.map .int) σ →
    compL 0 (aVar 0) tTrue (pBi fInt (pV 0)) (r.map .int) (.lst 12 b pre.length) [l0] acc σ Q := by
  induction r with
  | nil => intro pre σ acc l0 Q h2 h4 q; rw [List.map_nil, List.append_nil] at q; exact q
  | cons y r ih =>
    intro pre σ acc l0 Q h2 h4 q
    rw [List.length_cons] at h4
    have := ih (pre ++ [y]) σ (acc ++ [.int y]) (some (.int y)) Q (by rw [List.append_assoc]; exact h2) (by rw [List.length_append, List.length_singleton]; exact pb2) (by rw [List.append_assoc]; exact q)
    rw [List.length_append] at this
    exact cl_var rfl Et.tru (Ev.toInt (Ev.var rfl)) (by exact pc9) (by show (σ.lst 12 b).drop (pre.length + 1) = _; rw [h2, drop_mid]) trivial this
noncomputable abbrev mixB : S1 := sCons (sPutI (pBin fMod (pBin fAdd (pBin fMul (pSub (pV 1) (pK (.int 1))) (pK (.int 31))) (pV 2)) (pK (.int 1000003))) (pV 1) (pK (.int 1))) sNil
theorem mix_loop {b c : Addr} {l0 : Option V} {rest : Ls} (r : List Int) : ∀ (pre : List Int) (σ : H) (l2 : Option V) (Q : Fl → Ls → H → Prop), σ.lst 12 b = (pre ++ r).map .int → BoxOk σ c →
    (∀ σ' l2, FrK σ σ' → BoxOk σ' c → Q .next (l0 :: some (.ref (.lst 11) c) :: l2 :: rest) σ') →
    forL (aVar 2) mixB (r.map .int) (.lst 12 b pre.length) (l0 :: some (.ref (.lst 11) c) :: l2 :: rest) σ Q := by
  induction r with
  | nil => intro pre σ l2 Q h2 hx q; exact q σ l2 (.refl _) hx
  | cons y r ih =>
    intro pre σ l2 Q h2 hx q
    obtain ⟨ib, ns, s, e1, e2, e3, s0, s1⟩ := hx.ex
    obtain ⟨m0, m1⟩ := fmod_bound (a := s * 31 + y) (b := 1000003) (by decide)
    have F : FrK σ (σ.setL 11 c [.ref (.lst 12) ib, .int ((s * 31 + y).fmod 1000003)]) := FrK.setL (.inl rfl)
    have l2' : (σ.setL 11 c [.ref (.lst 12) ib, .int ((s * 31 + y).fmod 1000003)]).lst 12 b = (pre ++ y :: r).map .int := (setL_k (by decide)).trans h2
    have X : BoxOk (σ.setL 11 c [.ref (.lst 12) ib, .int ((s * 31 + y).fmod 1000003)]) c := ⟨ib, ns, _, setL_at, (setL_k (by decide)).trans e2, e3, m0, m1⟩
    refine f_var (q_putL (Ev.mod (Ev.add (Ev.mul (Ev.subL (w := .int s) (Ev.var rfl) Ev.con (by decide) (by rw [e1]; rfl)) Ev.con ⟨s0, by exact pc12, by decide, by decide⟩) (Ev.var rfl)) Ev.con (by decide)) (Ev.var rfl) Ev.con ⟨by decide, by decide, by rw [e1]; exact Nat.le_refl _⟩ ?_)
    rw [e1]
    have := ih (pre ++ [y]) _ (some (.int y)) Q (by rw [List.append_assoc]; exact l2') X fun σ' l2 F' X' => q σ' l2 (F.trans F') X'
    rw [List.length_append] at this
    exact f_end ((congrArg (List.drop (pre.length + 1)) l2').trans drop_mid) trivial this
theorem LI.grow {σ σ' : H} {W : Wd} {L : Lw} (h : LI σ W L) (hlt : ∀ j, j < W.m → L.ow j < σ.nxt) {a sp : Addr} {S' : SM} {abv : Bool} {d rl : Addr} (hd : σ.nxt ≤ d) (hrl : σ.nxt ≤ rl) (hrl' : rl < σ'.nxt) (hn : σ.nxt ≤ σ'.nxt)
    (l5 : σ'.lst 5 L.owA = σ.lst 5 L.owA ++ [.ref (.dS 2) d]) (l6 : σ'.lst 6 L.stA = σ.lst 6 L.stA ++ [stv a]) (dd : (σ'.dS 2 d).1 = ownL ⟨[], abv, true⟩ W.m rl) (lr : σ'.lst 7 rl = []) (od : ∀ x, x < σ.nxt → σ'.dS 2 x = σ.dS 2 x) (ol : ∀ x, x < σ.nxt → σ'.lst 7 x = σ.lst 7 x) :
    LI σ' (W.grow a sp abv S') { L with ow := fun k => if k = W.m then d else L.ow k } := by
  have rng : ∀ f g : Nat → V, (∀ k, k < W.m → f k = g k) → (List.range (W.m + 1)).map f = (List.range W.m).map g ++ [f W.m] := fun f g e => by
    rw [List.range_succ, List.map_append]
    congr 1
    exact List.map_congr_left fun k hk => e k (List.mem_range.mp hk)
  have inj0 : ∀ (o : OA) (k' : Nat) (r1 r2 : Addr) (o2 : OA) (k2 : Nat), ownL o k' r1 = ownL o2 k2 r2 → r1 = r2 := fun o k' r1 r2 o2 k2 z => by
    injection z with z
    injection z with _ z
    injection z
  have lo : ∀ {k}, k < W.m + 1 → k ≠ W.m → k < W.m := fun h e => Nat.lt_of_le_of_ne (Nat.le_of_lt_succ h) e
  have old : ∀ l t, l < W.m → (σ.dS 2 (L.ow l)).1 = ownL (W.A l) l t → t < σ.nxt := fun l t hl z => by
    obtain ⟨t', a, b, c⟩ := h.ow l hl
    rw [inj0 _ _ _ _ _ _ (z.symm.trans a)]; exact c
  have eA : ∀ k, k ≠ W.m → (W.grow a sp abv S').A k = W.A k := fun k z => if_neg z
  have eN : (W.grow a sp abv S').A W.m = ⟨[], abv, true⟩ := if_pos rfl
  refine ⟨?_, ?_, fun k hk => ?_, fun k l hk hl z => ?_, fun k l t hk hl zk zl => ?_⟩
  · rw [l5, h.owns]
    have := rng (fun k => .ref (.dS 2) (if k = W.m then d else L.ow k)) (fun k => .ref (.dS 2) (L.ow k)) fun k hk => by
      have : k ≠ W.m := by exact pb12
      rw [if_neg this]
    rw [if_pos rfl] at this
    exact this.symm
  · rw [l6, h.stores]
    have := rng (fun k => stv (if k = W.m then a else W.st k)) (fun k => stv (W.st k)) fun k hk => by
      have : k ≠ W.m := by exact pb12
      rw [if_neg this]
    rw [if_pos rfl] at this
    exact this.symm
  · by_cases z : k = W.m
    · subst z
      rw [eN]
      refine ⟨rl, ?_, lr, hrl'⟩
      show (σ'.dS 2 (if W.m = W.m then d else L.ow W.m)).1 = _
      rw [if_pos rfl]; exact dd
    · have hk' : k < W.m := lo hk z
      obtain ⟨t, h1, h2, h3⟩ := h.ow k hk'
      rw [eA k z]
      refine ⟨t, ?_, by rw [ol t h3]; exact h2, Nat.lt_of_lt_of_le h3 hn⟩
      show (σ'.dS 2 (if k = W.m then d else L.ow k)).1 = _
      rw [if_neg z, od _ (hlt k hk')]; exact h1
  · have z : (if k = W.m then d else L.ow k) = if l = W.m then d else L.ow l := z
    by_cases zk : k = W.m <;> by_cases zl : l = W.m
    · rw [zk, zl]
    · rw [if_pos zk, if_neg zl] at z; exact absurd (hlt l (lo hl zl)) (by rw [← z]; exact Nat.not_lt.mpr hd)
    · rw [if_neg zk, if_pos zl] at z; exact absurd (hlt k (lo hk zk)) (by rw [z]; exact Nat.not_lt.mpr hd)
    · rw [if_neg zk, if_neg zl] at z; exact h.owinj k l (lo hk zk) (lo hl zl) z
  · have zk : (σ'.dS 2 (if k = W.m then d else L.ow k)).1 = ownL ((W.grow a sp abv S').A k) k t := zk
    have zl : (σ'.dS 2 (if l = W.m then d else L.ow l)).1 = ownL ((W.grow a sp abv S').A l) l t := zl
    by_cases yk : k = W.m <;> by_cases yl : l = W.m
    · rw [yk, yl]
    · have hl := lo hl yl
      rw [if_pos yk, dd] at zk
      rw [if_neg yl, od _ (hlt l hl), eA l yl] at zl
      have := inj0 _ _ _ _ _ _ zk
      subst this
      exact absurd (old l rl hl zl) (Nat.not_lt.mpr hrl)
    · have hk := lo hk yk
      rw [if_pos yl, dd] at zl
      rw [if_neg yk, od _ (hlt k hk), eA k yk] at zk
      have := inj0 _ _ _ _ _ _ zl
      subst this
      exact absurd (old k rl hk zk) (Nat.not_lt.mpr hrl)
    · have hk := lo hk yk
      have hl := lo hl yl
      rw [if_neg yk, od _ (hlt k hk), eA k yk] at zk
      rw [if_neg yl, od _ (hlt l hl), eA l yl] at zl
      exact h.rlinj k l t hk hl zk zl
structure SU (σ : H) (W : Wd) (L : Lw) (c tr : Addr) : Prop where
  bi : BI σ W
  li : LI σ W L
  owlt : ∀ j, j < W.m → L.ow j < σ.nxt
  bx : BoxOk σ c
  tr : W.tr = tr
noncomputable abbrev suB : S1 := (sCons (sSet 9 (pIf (tCmp fGt (pCall F_law_take (eCons (pV 1) (eCons (pK (.int 4)) eNil))) (pK (.int 0))) (pBin fSub (pV 8) (pK (.int 1))) (pK .none))) (sCons (sExpr (pAppend (pV 6) (pDictS 2 [(Str.ofString "rows"), (Str.ofString "above"), (Str.ofString "open")] (eCons (pList 7 eNil) (eCons (pV 9) (eCons (pK (.bool true)) eNil)))))) (sCons (sExpr (pAppend (pV 7) (pCall (fNew 2 F_Store_init) (eCons (pV 5) (eCons (pIf (tCmp fIs (pV 9) (pK .none)) (pK .none) (pSub (pV 7) (pV 9))) eNil))))) sNil)))
noncomputable def suLs (c tr owA stA : Addr) (l0 l2 l3 l4 l8 l9 : Option V) (rest : Ls) : Ls := l0 :: some (.ref (.lst 11) c) :: l2 :: l3 :: l4 :: some (.ref (.inst 1) tr) :: some (.ref (.lst 5) owA) :: some (.ref (.lst 6) stA) :: l8 :: l9 :: rest
theorem e_appC {o t : E1} {ls : Ls} {σ : H} {k : Nat} {x : Addr} {C : V → H → Prop} (h : Ev o ls σ (.ref (.lst k) x)) (q : t ls σ fun v σ' => (σ'.lst k x).length ≤ 1000 ∧ C .none (σ'.setL k x (σ'.lst k x ++ [v]))) : pAppend o t ls σ C := h _ q
theorem k_gtI {n m : Int} {bb : Bool} {σ : H} {D : Bool → H → Prop} (e : decide (m < n) = bb) (q : D bb σ) : fGt (.int n) (.int m) σ D := by
  subst e
  exact q
theorem rd_dS {σ : H} {k : Nat} {a : Addr} {l : List V} : (σ.setL k a l).dS = σ.dS := rfl
theorem rd_nS {σ : H} {k : Nat} {a : Addr} {l : List V} : (σ.newL k a l).dS = σ.dS := rfl
theorem rd_lst {σ : H} {k : Nat} {a : Addr} {d : List (Str × V)} {e : Nat} : (σ.setS k a d e).lst = σ.lst := rfl
noncomputable abbrev suC : S1 := sCons (sExpr (pAppend (pV 7) (pCall (fNew 2 F_Store_init) (eCons (pV 5) (eCons (pIf (tCmp fIs (pV 9) (pK .none)) (pK .none) (pSub (pV 7) (pV 9))) eNil))))) sNil
structure OwN (σ σ' : H) (owA d rl : Addr) (o : List (Str × V)) : Prop where
  fld : σ'.fld = σ.fld
  dI : σ'.dI = σ.dI
  dT : σ'.dT = σ.dT
  l5 : σ'.lst 5 owA = σ.lst 5 owA ++ [.ref (.dS 2) d]
  lst : ∀ k, k ≠ 5 → k ≠ 7 → σ'.lst k = σ.lst k
  l7 : σ'.lst 7 rl = []
  l7' : ∀ x, x ≠ rl → σ'.lst 7 x = σ.lst 7 x
  d2 : (σ'.dS 2 d).1 = o
  d2' : ∀ x, x ≠ d → σ'.dS 2 x = σ.dS 2 x
  dS : ∀ k, k ≠ 2 → σ'.dS k = σ.dS k
  nxt : σ'.nxt = rl + 1
theorem OwN.mk' {σ : H} {owA d rl : Addr} {o : List (Str × V)} {e : Nat} : OwN σ ((((σ.res d).newL 7 rl []).setS 2 d o e).setL 5 owA ((((σ.res d).newL 7 rl []).setS 2 d o e).lst 5 owA ++ [.ref (.dS 2) d])) owA d rl o where
  fld := rfl
  dI := rfl
  dT := rfl
  l5 := by rw [setL_at, rd_lst, newL_k (by decide)]; rfl
  lst := fun k h5 h7 => by rw [setL_kl h5, rd_lst, newL_kl h7]; rfl
  l7 := by rw [setL_k (by decide), rd_lst, newL_at]
  l7' := fun x hx => by rw [setL_k (by decide), rd_lst, newL_a hx]; rfl
  d2 := by rw [rd_dS, setS_at]
  d2' := fun x hx => by rw [rd_dS, setS_a hx, rd_nS]; rfl
  dS := fun k hk => by rw [rd_dS, setS_kl hk, rd_nS]; rfl
  nxt := rfl
theorem su_turn {σ : H} {W : Wd} {L : Lw} {c tr : Addr} (h : SU σ W L c tr) (hm : W.m + 1 ≤ 4) (h0 : 0 < W.m) {l0 l2 l3 l4 l9 : Option V} {rest : Ls} {Q : Fl → Ls → H → Prop}
    (q : ∀ σ' W' L' l9, SU σ' W' L' c tr → W'.m = W.m + 1 → L'.owA = L.owA → L'.stA = L.stA → Q .next (suLs c tr L.owA L.stA l0 l2 l3 l4 (some (.int W.m)) l9 rest) σ') :
    suB (suLs c tr L.owA L.stA l0 l2 l3 l4 (some (.int W.m)) l9 rest) σ Q := by
  have e1 : (W.m : Int) - 1 = ((W.m - 1 : Nat) : Int) := by exact pb18
  have e2 : (0 : Int) ≤ ((W.m - 1 : Nat) : Int) ∧ ((W.m - 1 : Nat) : Int) < 1000 := ⟨by exact pa1, by omega⟩
  unfold suLs
  refine q_setC (e_if (d_cmp (e_call (by walk_at "ev") (sp_take h.bx (by decide) fun σ1 r F1 x1 r0 r1 => e_val Ev.con ?_))))
  have b1 := F1.bi h.bi
  have l1 := F1.li h.li
  have nx1 : σ1.nxt = σ.nxt := F1.nxt
  have go : ∀ abv : Bool, (sCons (sExpr (pAppend (pV 6) (pDictS 2 [(Str.ofString "rows"), (Str.ofString "above"), (Str.ofString "open")] (eCons (pList 7 eNil) (eCons (pV 9) (eCons (pK (.bool true)) eNil)))))) suC) (l0 :: some (.ref (.lst 11) c) :: l2 :: l3 :: l4 :: some (.ref (.inst 1) tr) :: some (.ref (.lst 5) L.owA) :: some (.ref (.lst 6) L.stA) :: some (.int W.m) :: some (abvV ⟨[], abv, true⟩ W.m) :: rest) σ1 Q := fun abv => by
    refine q_expr (e_appC (by walk_at "ev") fun d hd => el_cons (e_list El.nil (Nat.zero_le _) fun rl hrl => el_val (by walk_at "ev") ⟨Nat.lt_of_lt_of_le (Nat.lt_succ_self d) (Nat.le_succ_of_le hrl), fun e => ⟨?_, ?_⟩⟩))
    · rw [rd_lst, newL_k (by decide)]
      show (σ1.lst 5 L.owA).length ≤ 1000
      rw [l1.owns, List.length_map, List.length_range]; exact pc9
    refine gen_st (Q := fun σ2 => suC _ σ2 Q) fun σ2 hσ2 => ?_
    have N : OwN σ1 σ2 L.owA d rl (ownL ⟨[], abv, true⟩ W.m rl) := hσ2 ▸ OwN.mk'
    clear hσ2
    have hrl0 : σ1.nxt ≤ rl := Nat.le_trans hd (Nat.le_of_succ_le hrl)
    have b2 : BI σ2 W := b1.eqv (fun _ _ => by rw [N.fld]) (N.lst 1 (by decide) (by decide)) (N.dS 0 (by decide)) (N.dS 1 (by decide)) (by rw [N.dI]) (by rw [N.dT]) (N.nxt ▸ Nat.le_succ_of_le hrl0)
    have hd' : σ.nxt ≤ d := nx1 ▸ hd
    have hrl' : σ.nxt ≤ rl := nx1 ▸ hrl0
    have s6 := N.lst 6 (by decide) (by decide)
    have fin : ∀ v, v = proV (if abv then some (W.st (W.m - 1)) else none) → fNew 2 F_Store_init [.ref (.inst 1) tr, v] σ2 (fun x σ' => (σ'.lst 6 L.stA).length ≤ 1000 ∧ Q .next (suLs c tr L.owA L.stA l0 l2 l3 l4 (some (.int W.m)) (some (abvV ⟨[], abv, true⟩ W.m)) rest) (σ'.setL 6 L.stA (σ'.lst 6 L.stA ++ [x]))) := fun v hv => by
      rw [← h.tr]
      refine sp_store_init b2 hm (abv := abv) (fun _ => h0) hv fun σ3 a sp S' b3 F3 ha => ?_
      have s63 : σ3.lst 6 L.stA = σ1.lst 6 L.stA := congrFun ((F3.lst 6 (by decide)).trans s6) _
      have n3 : rl + 1 ≤ σ3.nxt := N.nxt ▸ F3.nxt
      have hn3 := Nat.le_trans hrl' (Nat.le_of_succ_le n3)
      have keep : ∀ k, k ≠ 6 → (σ3.setL 6 L.stA (σ3.lst 6 L.stA ++ [stv a])).lst k = σ3.lst k := fun k hk => setL_kl hk
      have := q (σ3.setL 6 L.stA (σ3.lst 6 L.stA ++ [stv a])) (W.grow a sp abv S') { L with ow := fun k => if k = W.m then d else L.ow k } (some (abvV ⟨[], abv, true⟩ W.m)) ⟨b3.eqv (fun _ _ => rfl) (keep 1 (by decide)) rfl rfl rfl rfl (Nat.le_refl _), h.li.grow h.owlt (d := d) (rl := rl) hd' hrl' (Nat.lt_of_lt_of_le (Nat.lt_succ_self rl) n3) hn3 ?_ ?_ ?_ ?_ (fun x hx => ?_) (fun x hx => ?_), fun j hj => ?_, (x1.mono (N.lst 11 (by decide) (by decide)) (N.lst 12 (by decide) (by decide))).mono ((keep 11 (by decide)).trans (F3.lst 11 (by decide))) ((keep 12 (by decide)).trans (F3.lst 12 (by decide))), h.tr⟩ rfl rfl rfl
      · rw [h.tr]
        refine ⟨?_, this⟩
        rw [s63, l1.stores, List.length_map, List.length_range]; exact pc9
      · rw [keep 5 (by decide), F3.lst 5 (by decide), N.l5, F1.lst 5 (by decide) (by decide)]
      · rw [setL_at, s63, F1.lst 6 (by decide) (by decide)]
      · rw [rd_dS, F3.dS 2 (by decide), N.d2]
      · rw [keep 7 (by decide), F3.lst 7 (by decide), N.l7]
      · rw [rd_dS, F3.dS 2 (by decide), N.d2' x (lt_ne hx hd'), F1.dS]
      · rw [keep 7 (by decide), F3.lst 7 (by decide), N.l7' x (lt_ne hx hrl'), F1.lst 7 (by decide) (by decide)]
      · show (if j = W.m then d else L.ow j) < σ3.nxt
        by_cases z : j = W.m
        · rw [if_pos z]; exact Nat.lt_of_lt_of_le (Nat.lt_of_lt_of_le (Nat.lt_succ_self d) hrl) (Nat.le_of_succ_le n3)
        · rw [if_neg z]; exact Nat.lt_of_lt_of_le (h.owlt j (Nat.lt_of_le_of_ne (Nat.le_of_lt_succ hj) z)) hn3
    cases abv with
    | false => exact q_expr (e_appC (by walk_at "ev") (e_call (El.cons (by walk_at "ev") (El.cons (Ev.ift (Et.is (Ev.var rfl) rfl) Ev.con) El.nil)) (fin .none rfl)))
    | true =>
      have e6 : (σ2.lst 6 L.stA)[(((W.m - 1 : Nat) : Int)).toNat]? = some (stv (W.st (W.m - 1))) := by rw [s6]; exact l1.sget (by omega)
      exact q_expr (e_appC (by walk_at "ev") (e_call (El.cons (by walk_at "ev") (El.cons (Ev.iff (Et.is (Ev.var rfl) rfl) (Ev.subL (Ev.var rfl) (Ev.var rfl) e2 e6)) El.nil)) (fin _ rfl)))
  by_cases c0 : 0 < r
  · exact k_gtI (decide_eq_true c0) (b_t (e_val (Ev.cast (Ev.sub (Ev.var rfl) Ev.con) (congrArg V.int e1)) (go true)))
  · exact k_gtI (decide_eq_false c0) (b_f (e_val Ev.con (go false)))
end
section
set_option linter.unusedSimpArgs false
set_option maxHeartbeats 4000000
set_option maxRecDepth 10000
theorem su_loop {c tr owA stA : Addr} {l0 l2 l3 l4 : Option V} {rest : Ls} (n : Nat) : ∀ (σ : H) (W : Wd) (L : Lw) (l8 l9 : Option V) (Q : Fl → Ls → H → Prop), SU σ W L c tr → W.m + n ≤ 4 → 0 < W.m → L.owA = owA → L.stA = stA →
    (∀ σ' W' L' l8 l9, SU σ' W' L' c tr → W'.m = W.m + n → L'.owA = owA → L'.stA = stA → Q .next (suLs c tr owA stA l0 l2 l3 l4 l8 l9 rest) σ') →
    forL (aVar 8) suB (rngV W.m n) (.rng W.m n) (suLs c tr owA stA l0 l2 l3 l4 l8 l9 rest) σ Q := by
  induction n with
  | zero => intro σ W L l8 l9 Q h hm h0 e1 e2 q; exact q σ W L l8 l9 h rfl e1 e2
  | succ n ih =>
    intro σ W L l8 l9 Q h hm h0 e1 e2 q
    subst e1 e2
    refine f_var (su_turn h (by exact pb4) h0 fun σ' W' L' l9' h' em ea eb => f_end rfl trivial ?_)
    have := ih σ' W' L' (some (.int W.m)) l9' Q h' (by omega) (by omega) ea eb fun σ2 W2 L2 m8 m9 h2 e2 => q σ2 W2 L2 m8 m9 h2 (by omega)
    rw [em] at this
    exact this
theorem main_loop (n : Nat) : ∀ (x : Int) (σ : H) (C : Cx) (l0 l2 l4 l5 l8 l9 l13 l14 l15 : Option V) (Q : Fl → Ls → H → Prop), GI σ C → 0 < C.W.m → (∀ ls σ', Q .next ls σ') →
    forL (aVar 13) turnB (rngV x n) (.rng x n) (lawLs C l0 l2 l4 l5 l8 l9 l13 l14 l15) σ Q := by
  induction n with
  | zero => intro x σ C l0 l2 l4 l5 l8 l9 l13 l14 l15 Q h hm q; exact q _ _
  | succ n ih =>
    intro x σ C l0 l2 l4 l5 l8 l9 l13 l14 l15 Q h hm q
    refine f_var ?_
    show turnB (lawLs C l0 l2 l4 l5 l8 l9 (some (.int x)) l14 l15) σ _
    refine sp_turn h hm fun σ' C' m8 m14 m15 h' c' => f_end rfl trivial ?_
    rw [← c'.ls]
    exact ih (x + 1) σ' C' _ _ _ _ _ _ _ _ _ Q h' (by rw [c'.m]; exact hm) q
noncomputable def W0 (tr ro : Addr) : Wd := ⟨tr, ro, fun _ => none, 0, fun _ => 0, fun _ => ⟨[], false, true⟩, fun _ => false, fun _ => 0⟩
theorem bi_zero {σ : H} {tr ro : Addr} (f2 : ∀ p f, σ.fld 2 p f = none) (t10 : σ.fld 1 tr 10 = some (.int 4)) (t11 : σ.fld 1 tr 11 = some (.int 0)) (t12 : σ.fld 1 tr 12 = some (.ref (.dI 0) ro)) (hr : σ.dI 0 ro = []) (l1 : ro < σ.nxt) (l2 : tr < σ.nxt) : BI σ (W0 tr ro) where
  si := ⟨fun _ _ h => (nomatch h), fun _ _ _ _ h => (nomatch h), fun _ _ _ _ h => (nomatch h), t10, ⟨0, t11, Int.le_refl _, fun _ _ h => (nomatch h), fun p n h => (by rw [f2] at h; cases h)⟩, t12, by show ∀ e ∈ σ.dI 0 ro, _; rw [hr]; exact fun _ h => (nomatch h), by show ((σ.dI 0 ro).map _).Nodup; rw [hr]; exact List.nodup_nil, l1, l2, fun p q n h => (by rw [f2] at h; cases h), ⟨[], Nat.le_refl _, fun p n h => (by rw [f2] at h; cases h)⟩, Nat.zero_le _⟩
  st := fun k hk => absurd hk (Nat.not_lt_zero k)
  inj := fun k l hk => absurd hk (Nat.not_lt_zero k)
  i16 := fun p q t h => by rw [f2] at h; cases h
  i15 := fun p q t h => by rw [f2] at h; cases h
  l16 := fun p t h => by rw [f2] at h; cases h
  l15 := fun p t h => by rw [f2] at h; cases h
  abv := fun k hk => absurd hk (Nat.not_lt_zero k)
  m4 := Nat.zero_le _
  l2 := fun p f v h => by rw [f2] at h; cases h
theorem li_one {σ : H} {tr ro a sp : Addr} {S' : SM} {owA stA d rl : Addr} (l5 : σ.lst 5 owA = [.ref (.dS 2) d]) (l6 : σ.lst 6 stA = [stv a]) (dd : (σ.dS 2 d).1 = ownL ⟨[], false, true⟩ 0 rl) (lr : σ.lst 7 rl = []) (hr : rl < σ.nxt) : LI σ ((W0 tr ro).grow a sp false S') ⟨owA, stA, fun _ => d⟩ where
  owns := l5
  stores := l6
  ow := fun k hk => by
    have hk : k < 0 + 1 := hk
    obtain rfl : k = 0 := by omega
    exact ⟨rl, dd, lr, hr⟩
  owinj := fun k l hk hl _ => by
    have hk : k < 0 + 1 := hk
    have hl : l < 0 + 1 := hl
    omega
  rlinj := fun k l t hk hl _ _ => by
    have hk : k < 0 + 1 := hk
    have hl : l < 0 + 1 := hl
    omega
section
variable {ls : Ls} {σ : H} {t o : E1} {C : V → H → Prop} {Q : Fl → Ls → H → Prop} {r : S1} {v v1 v2 v3 : V}
theorem gen_e {t : Es} {K : List V → H → Prop} (q : ∀ τ, τ = σ → t ls τ K) : t ls σ K := q σ rfl
theorem e_slice {k : Nat} {a : Addr} {l : List Int} (h : Ev t ls σ (.ext a)) (q : ∀ b, σ.nxt ≤ b → C (.ref (.lst k) b) (σ.newL k b (l.map .int))) : pSlice k a l t ls σ C := h _ ⟨rfl, q⟩
theorem e_listC {k : Nat} {t : Es} (q : t ls σ fun vs σ => vs.length ≤ 1000 ∧ ∀ a, σ.nxt ≤ a → C (.ref (.lst k) a) (σ.newL k a vs)) : pList k t ls σ C := q
theorem e_dictS {k : Nat} {xs : List Str} {t : Es} (q : ∀ a, σ.nxt ≤ a → t ls (σ.res a) fun vs σ' => a < σ'.nxt ∧ ∀ e, C (.ref (.dS k) a) (σ'.setS k a (xs.zip vs) e)) : pDictS k xs t ls σ C := q
theorem k_add {n m : Int} (q : C (.int (n + m)) σ) : fAdd (.int n) (.int m) σ C := q
theorem k_asg3 {i j l : Nat} (q : r (((ls.set i (some v1)).set j (some v2)).set l (some v3)) σ Q) : KAsg (aTup 3 (asCons (aVar i) (asCons (aVar j) (asCons (aVar l) asNil)))) r ls Q (.p3 v1 v2 v3) σ := ⟨rfl, q⟩
@[reducible] def KIL (K : IK → H → Prop) (v : V) (σ : H) : Prop := match v with | .ref (.lst k) a => K (.lst k a 0) σ | _ => False
theorem j_lst {K : IK → H → Prop} (q : t ls σ (KIL K)) : iLst t ls σ K := q
theorem k_il {K : IK → H → Prop} {k : Nat} {a : Addr} (q : K (.lst k a 0) σ) : KIL K (.ref (.lst k) a) σ := q
theorem j_tup3 {K : IK → H → Prop} (h : Ev t ls σ (.p3 v1 v2 v3)) (q : K (.tup [v1, v2, v3] 0) σ) : iTup t ls σ K := h _ q
@[reducible] def KIR (K : IK → H → Prop) (v : V) (σ : H) : Prop := match v with | .int b => (0 ≤ b ∧ b < 1000) ∧ K (.rng 0 b.toNat) σ | _ => False
theorem j_rng {K : IK → H → Prop} (q : t ls σ (KIR K)) : iRng1 t ls σ K := q
theorem k_ir {K : IK → H → Prop} {n : Int} (z : 0 ≤ n ∧ n < 1000) (q : K (.rng 0 n.toNat) σ) : KIR K (.int n) σ := ⟨z, q⟩
end
theorem fld_newI {σ : H} {k : Nat} {a : Addr} {d : List (Int × V)} {c : Nat} : (σ.newI k a d).fld c = σ.fld c := rfl
theorem law1 {σ : H} {sa : Addr} {ns : List Int} {r : S1} {ls : Ls} {Q : Fl → Ls → H → Prop} (h2 : ∀ p f, σ.fld 2 p f = none) (h0 : ls[0]? = some (some (.ext sa)))
    (q : ∀ σ' a c, (∀ p f, σ'.fld 2 p f = none) → σ'.lst 11 c = [.ref (.lst 12) a, .int 7] → σ'.lst 12 a = (ns.take 48).map .int → a < σ'.nxt → r (ls.set 1 (some (.ref (.lst 11) c))) σ' Q) :
    sCons (sSet 1 (pList 11 (eCons (pComp 12 [] 1 (aVar 0) tTrue (pBi fInt (pV 0)) (iLst (pSlice 12 sa (ns.take 48) (pV 0)))) (eCons (pK (.int 7)) eNil)))) r ls σ Q := by
  have hlen : (ns.take 48).length ≤ 48 := List.length_take_le _ _
  refine q_setC (e_listC (el_cons (e_comp (j_lst (e_slice (Ev.var h0) fun b0 hb0 => k_il ⟨fun _ z => (nomatch z), fun a ha => ?_⟩)))))
  rw [show (IK.lst 12 b0 0).items (σ.newL 12 b0 ((ns.take 48).map .int)) = (ns.take 48).map .int from newL_at]
  refine int_loop (b := b0) (ns.take 48) [] _ [] none _ newL_at (by rw [List.length_nil]; exact pc8) ⟨Nat.lt_succ_self _, el_val (by walk_at "ev") ⟨Nat.le_of_ble_eq_true rfl, fun c hc => ?_⟩⟩
  exact q _ a c h2 newL_at ((newL_k (by decide)).trans (if_pos ⟨rfl, rfl⟩)) (Nat.lt_succ_of_lt hc)
theorem law2 {σ : H} {sa a c : Addr} {ns : List Int} {r : S1} {l2 : Option V} {rest : Ls} {Q : Fl → Ls → H → Prop} (h2 : ∀ p f, σ.fld 2 p f = none) (y11 : σ.lst 11 c = [.ref (.lst 12) a, .int 7]) (y12 : σ.lst 12 a = (ns.take 48).map .int) (yn : a < σ.nxt)
    (q : ∀ σ' l2, (∀ p f, σ'.fld 2 p f = none) → BoxOk σ' c → r (some (.ext sa) :: some (.ref (.lst 11) c) :: l2 :: rest) σ' Q) :
    sCons (sFor (iLst (pSlice 12 sa (ns.take 48) (pV 0))) (aVar 2) mixB) r (some (.ext sa) :: some (.ref (.lst 11) c) :: l2 :: rest) σ Q := by
  have hlen : (ns.take 48).length ≤ 48 := List.length_take_le _ _
  refine q_forC (j_lst (e_slice (Ev.var rfl) fun b hb => k_il ?_))
  have x2 : BoxOk (σ.newL 12 b ((ns.take 48).map .int)) c := ⟨a, ns.take 48, 7, (newL_k (by decide)).trans y11, (newL_a (lt_ne yn hb)).trans y12, by exact pc1, by decide, by decide⟩
  rw [show (IK.lst 12 b 0).items (σ.newL 12 b ((ns.take 48).map .int)) = (ns.take 48).map .int from newL_at]
  exact mix_loop (b := b) (c := c) (ns.take 48) [] _ l2 _ newL_at x2 fun σ3 lz F3 x3 => q σ3 lz (by rw [F3.fld]; exact h2) x3
theorem law3 {σ : H} {c : Addr} {ls : Ls} {K : List V → H → Prop} (h2 : ∀ p f, σ.fld 2 p f = none) (hx : BoxOk σ c) (q : ∀ σ' tr ro, BI σ' (W0 tr ro) → BoxOk σ' c → K [.ref (.inst 1) tr] σ') :
    eCons (pCall (fNew 1 F_ShapeTree_init) (eCons (pK (.int 4)) eNil)) eNil ls σ K := by
  refine el_cons (e_call (by walk_at "ev") fun tr htr => q_def rfl ?_)
  repeat (walk_at "st")
  refine q_putFC (e_dict0I fun ro hro => ?_)
  repeat (walk_at "st")
  refine ⟨rfl, el_val El.nil (q _ tr ro (bi_zero (fun p f => ?_) ?_ ?_ setF_at (if_pos ⟨rfl, rfl⟩) (Nat.lt_succ_self _) (Nat.lt_succ_of_lt hro)) (hx.mono rfl rfl))⟩
  · exact (setF_c (by decide)).trans ((congrFun (congrFun fld_newI p) f).trans ((setF_c (by decide)).trans ((setF_c (by decide)).trans ((congrFun (congrFun (newC_cl (by decide)) p) f).trans (h2 p f)))))
  · exact (setF_f (by decide)).trans ((congrFun (congrFun fld_newI tr) 10).trans ((setF_f (by decide)).trans setF_at))
  · exact (setF_f (by decide)).trans ((congrFun (congrFun fld_newI tr) 11).trans setF_at)
theorem own_new {σ : H} {W : Wd} {c d rl owA : Addr} {o : List (Str × V)} {e : Nat} (hb : BI σ W) (hx : BoxOk σ c) (hrl : σ.nxt ≤ rl) (ho : rl + 1 ≤ owA) :
    ∀ τ, τ = (((σ.res d).newL 7 rl []).setS 2 d o e).newL 5 owA [.ref (.dS 2) d] → BI τ W ∧ BoxOk τ c ∧ τ.lst 5 owA = [.ref (.dS 2) d] ∧ τ.lst 7 rl = [] ∧ (τ.dS 2 d).1 = o ∧ τ.nxt = owA + 1 := fun τ hτ => by
  have L : ∀ k, k ≠ 5 → τ.lst k = ((σ.res d).newL 7 rl []).lst k := fun k hk => by rw [hτ]; exact newL_kl hk
  have K : ∀ k, k ≠ 5 → k ≠ 7 → τ.lst k = σ.lst k := fun k h5 h7 => (L k h5).trans (newL_kl h7)
  have D : τ.dS = (((σ.res d).newL 7 rl []).setS 2 d o e).dS := by rw [hτ]; rfl
  have S : ∀ k, k ≠ 2 → τ.dS k = σ.dS k := fun k hk => by rw [D, setS_kl hk]; rfl
  have hn : τ.nxt = owA + 1 := by rw [hτ]; rfl
  have hle : σ.nxt ≤ τ.nxt := hn ▸ Nat.le_trans hrl (Nat.le_of_succ_le (Nat.le_succ_of_le ho))
  have f : τ.fld = σ.fld ∧ τ.dI = σ.dI ∧ τ.dT = σ.dT := by rw [hτ]; exact ⟨rfl, rfl, rfl⟩
  refine ⟨hb.eqv (fun _ _ => by rw [f.1]) (K 1 (by decide) (by decide)) (S 0 (by decide)) (S 1 (by decide)) (by rw [f.2.1]) (by rw [f.2.2]) hle, hx.mono (K 11 (by decide) (by decide)) (K 12 (by decide) (by decide)), ?_, ?_, ?_, hn⟩
  · rw [hτ]; exact newL_at
  · rw [L 7 (by decide), newL_at]
  · rw [D, setS_at]
theorem law4 {σ : H} {c tr ro : Addr} {r : S1} {l0 l2 l3 l4 l6 l7 : Option V} {rest : Ls} {Q : Fl → Ls → H → Prop} (hb : BI σ (W0 tr ro)) (hx : BoxOk σ c)
    (q : ∀ σ' W owA stA d, SU σ' W ⟨owA, stA, fun _ => d⟩ c tr → W.m = 1 → r (l0 :: some (.ref (.lst 11) c) :: l2 :: l3 :: l4 :: some (.ref (.inst 1) tr) :: some (.ref (.lst 5) owA) :: some (.ref (.lst 6) stA) :: rest) σ' Q) :
    sCons (sSwap2 (pTup (eCons (pList 5 (eCons (pDictS 2 [(Str.ofString "rows"), (Str.ofString "above"), (Str.ofString "open")] (eCons (pList 7 eNil) (eCons (pK .none) (eCons (pK (.bool true)) eNil)))) eNil)) (eCons (pList 6 (eCons (pCall (fNew 2 F_Store_init) (eCons (pV 5) (eCons (pK .none) eNil))) eNil)) eNil))) 6 7) r (l0 :: some (.ref (.lst 11) c) :: l2 :: l3 :: l4 :: some (.ref (.inst 1) tr) :: l6 :: l7 :: rest) σ Q := by
  refine q_swap2C (e_tup (el_cons (e_listC (el_cons (e_dictS fun d hd => el_cons (e_list El.nil (Nat.zero_le _) fun rl hrl => el_val (by walk_at "ev") ⟨Nat.lt_of_lt_of_le (Nat.lt_succ_self d) (Nat.le_succ_of_le hrl), fun e => el_val El.nil ⟨Nat.le_of_ble_eq_true rfl, fun owA ho => gen_e fun σ7 hσ7 => ?_⟩⟩))))))
  have ho : rl + 1 ≤ owA := ho
  have hrl0 : σ.nxt ≤ rl := Nat.le_trans hd (Nat.le_of_succ_le hrl)
  obtain ⟨b7, x7, s5, s7, sd, sn⟩ := own_new hb hx hrl0 ho σ7 hσ7
  clear hσ7
  refine el_cons (e_listC (el_cons (e_call (by walk_at "ev") (sp_store_init b7 (show 0 + 1 ≤ 4 by decide) (abv := false) (fun z => nomatch z) (v := .none) rfl fun σ8 a sp S' b8 F8 ha => el_val El.nil ⟨Nat.le_of_ble_eq_true rfl, fun stA hs => el_val El.nil (k_tup2 (k_sw2 ?_))⟩))))
  have n8 : owA + 1 ≤ σ8.nxt := sn ▸ F8.nxt
  have hon : owA < (σ8.newL 6 stA [stv a]).nxt := Nat.lt_of_lt_of_le n8 (Nat.le_succ_of_le hs)
  have hrn := Nat.lt_of_succ_lt (Nat.lt_of_le_of_lt (Nat.succ_le_succ (Nat.le_refl rl)) (Nat.lt_of_le_of_lt ho hon))
  have keep : ∀ k, k ≠ 6 → (σ8.newL 6 stA [stv a]).lst k = σ8.lst k := fun k hk => newL_kl hk
  exact q _ ((W0 tr ro).grow a sp false S') owA stA d ⟨b8.eqv (fun _ _ => rfl) (keep 1 (by decide)) rfl rfl rfl rfl (Nat.le_succ_of_le hs), li_one (by rw [keep 5 (by decide), F8.lst 5 (by decide)]; exact s5) newL_at (by rw [rd_nS, F8.dS 2 (by decide)]; exact sd) (by rw [keep 7 (by decide), F8.lst 7 (by decide)]; exact s7) hrn, fun j _ => Nat.lt_of_le_of_lt (Nat.le_of_lt_succ (Nat.lt_succ_of_lt hrl)) hrn, x7.mono ((keep 11 (by decide)).trans (F8.lst 11 (by decide))) ((keep 12 (by decide)).trans (F8.lst 12 (by decide))), rfl⟩ rfl
theorem law5 {σ : H} {c i : Nat} (hc : 4 ≤ c) {r : S1} {ls : Ls} {lim : Int} {Q : Fl → Ls → H → Prop} (h0 : 0 ≤ lim) (h3 : lim ≤ 3) (h4 : ls[4]? = some (some (.int lim)))
    (q : ∀ σ' A s0 s1 s2, FrI σ σ' → (σ.nxt ≤ s0 ∧ s0 < s1 ∧ s1 < s2) → (∀ S, SiE σ' S c s0 (key 0) lim [] false 0 0) → (∀ S, SiE σ' S c s1 (key 1) lim [] false 0 0) → (∀ S, SiE σ' S c s2 (key 2) lim [] false 0 0) → A < σ'.nxt → σ'.lst 8 A = [.ref (.inst c) s0, .ref (.inst c) s1, .ref (.inst c) s2] → r (ls.set i (some (.ref (.lst 8) A))) σ' Q) :
    sCons (sSet i (pComp 8 [4] 1 (aVar 1) tTrue (pCall (fNew c F_Site_init) (eCons (pV 1) (eCons (pV 0) eNil))) (iTup (pTup (eCons (pK (.str (Str.ofString "a"))) (eCons (pK (.str (Str.ofString "b"))) (eCons (pK (.str (Str.ofString "c"))) eNil))))))) r ls σ Q := by
  refine q_setC (e_comp (j_tup3 (by walk_at "ev") ⟨fun i hi => by cases List.mem_singleton.mp hi; exact ⟨_, h4⟩, fun A hA => ?_⟩))
  rw [show [4].map (fun i => (ls[i]?).join) ++ List.replicate 1 none = [some (.int lim), none] from by rw [List.map_cons, h4]; rfl]
  refine sites_comp (c := c) hc h0 h3 (σ := σ.res A) (ik := .none) fun σ1 s0 s1 s2 F ne e0 e1 e2 => ⟨Nat.lt_of_lt_of_le (Nat.lt_succ_self A) F.nxt, ?_⟩
  have sl : ∀ {s x S l}, SiE σ1 S c s x lim [] false 0 0 → SiE (σ1.setL 8 A l) S c s x lim [] false 0 0 := fun h => h.mono (.refl _) (Nat.le_refl _) rfl (fun _ _ => rfl) (fun _ _ => setL_k (by decide)) fun _ _ => setL_k (by decide)
  exact q _ A s0 s1 s2 (((FrI.res hA).trans F).setL (k := 8) (by decide) hA) ⟨Nat.le_trans hA (Nat.le_of_succ_le ne.1), ne.2⟩ (fun S => sl (e0 S)) (fun S => sl (e1 S)) (fun S => sl (e2 S)) (Nat.lt_of_lt_of_le (Nat.lt_succ_self A) F.nxt) setL_at
theorem law6 {σ : H} {r : S1} {ls : Ls} {Q : Fl → Ls → H → Prop}
    (q : ∀ σ' A n0 n1 n2 n3 n4 n5, FrI σ σ' → Inc 0 [n0, n1, n2, n3, n4, n5] → (∀ t ∈ [n0, n1, n2, n3, n4, n5], NoOk σ' t [] false) → σ'.lst 9 A = [.ref (.dS 3) n0, .ref (.dS 3) n1, .ref (.dS 3) n2, .ref (.dS 3) n3, .ref (.dS 3) n4, .ref (.dS 3) n5] → r (ls.set 12 (some (.ref (.lst 9) A))) σ' Q) :
    sCons (sSet 12 (pComp 9 [] 1 (aVar 0) tTrue (pDictS 3 [(Str.ofString "shapes"), (Str.ofString "lost")] (eCons (pList 10 eNil) (eCons (pK (.bool false)) eNil))) (iRng1 (pK (.int 6))))) r ls σ Q := by
  refine q_setC (e_comp (j_rng (e_val Ev.con (k_ir ⟨by decide, by decide⟩ ⟨fun _ z => (nomatch z), fun A hA => ?_⟩))))
  refine notes_loop 6 0 (σ.res A) [] none _ (by decide) fun σ1 nts nl inc nok F => ⟨Nat.lt_of_lt_of_le (Nat.lt_succ_self A) F.nxt, ?_⟩
  obtain ⟨n0, n1, n2, n3, n4, n5, rfl⟩ : ∃ n0 n1 n2 n3 n4 n5, nts = [n0, n1, n2, n3, n4, n5] := by
    match nts, nl with
    | [n0, n1, n2, n3, n4, n5], _ => exact ⟨n0, n1, n2, n3, n4, n5, rfl⟩
  exact q _ A n0 n1 n2 n3 n4 n5 (((FrI.res hA).trans F).setL (k := 9) (by decide) hA) (inc.mono (Nat.zero_le _)) (fun t ht => (nok t ht).mono rfl (fun _ _ => setL_k (by decide)) (Nat.le_refl _)) setL_at
theorem j6 {j : Nat} (h : j < 6) : j = 0 ∨ j = 1 ∨ j = 2 ∨ j = 3 ∨ j = 4 ∨ j = 5 := by omega
theorem gi_start {σ10 σ12 σ14 σ16 : H} {W : Wd} {L : Lw} {c tr rA wA nA s0 s1 s2 s3 s4 s5 n0 n1 n2 n3 n4 n5 : Addr} {lim : Int} (U : SU σ10 W L c tr) (G11 : FrI σ10 σ12) (G13 : FrI σ12 σ14) (G15 : FrI σ14 σ16) (a : σ10.nxt ≤ s0 ∧ s0 < s1 ∧ s1 < s2) (b : σ12.nxt ≤ s3 ∧ s3 < s4 ∧ s4 < s5)
    (e0 : ∀ S, SiE σ12 S 4 s0 (key 0) lim [] false 0 0) (e1 : ∀ S, SiE σ12 S 4 s1 (key 1) lim [] false 0 0) (e2 : ∀ S, SiE σ12 S 4 s2 (key 2) lim [] false 0 0) (e3 : ∀ S, SiE σ14 S 5 s3 (key 0) lim [] false 0 0) (e4 : ∀ S, SiE σ14 S 5 s4 (key 1) lim [] false 0 0) (e5 : ∀ S, SiE σ14 S 5 s5 (key 2) lim [] false 0 0)
    (hA : rA < σ12.nxt) (hB : wA < σ14.nxt) (lA : σ12.lst 8 rA = [.ref (.inst 4) s0, .ref (.inst 4) s1, .ref (.inst 4) s2]) (lB : σ14.lst 8 wA = [.ref (.inst 5) s3, .ref (.inst 5) s4, .ref (.inst 5) s5]) (inc : Inc 0 [n0, n1, n2, n3, n4, n5]) (nok : ∀ t ∈ [n0, n1, n2, n3, n4, n5], NoOk σ16 t [] false)
    (lC : σ16.lst 9 nA = [.ref (.dS 3) n0, .ref (.dS 3) n1, .ref (.dS 3) n2, .ref (.dS 3) n3, .ref (.dS 3) n4, .ref (.dS 3) n5]) :
    GI σ16 ⟨W, L, lim, fun j => [s0, s1, s2, s3, s4, s5].getD j 0, fun j => [n0, n1, n2, n3, n4, n5].getD j 0, fun _ => [], fun _ => false, fun _ => 0, fun _ => 0, c, rA, wA, nA⟩ := by
  have G35 := G13.trans G15
  have G := G11.trans G35
  have incs : Inc 0 [s0, s1, s2, s3, s4, s5] := ⟨Nat.zero_le _, a.2.1, a.2.2, Nat.lt_of_lt_of_le (e2 fun _ => none).ok.lt b.1, b.2.1, b.2.2, trivial⟩
  refine ⟨G.bi U.bi, G.li U.li, fun j hj => ?_, fun _ _ _ _ h => (nomatch h), fun j hj => ?_, fun i j hi hj _ hs => incs.inj i j hi hj hs, fun i j hi hj hs => inc.inj i j hi hj hs, G.bx U.bx, ?_, ?_, lC⟩
  · rcases j6 hj with rfl | rfl | rfl | rfl | rfl | rfl
    · exact G35.sie (e0 _)
    · exact G35.sie (e1 _)
    · exact G35.sie (e2 _)
    · exact G15.sie (e3 _)
    · exact G15.sie (e4 _)
    · exact G15.sie (e5 _)
  · refine nok _ ?_
    show [n0, n1, n2, n3, n4, n5].getD j 0 ∈ _
    rcases j6 hj with rfl | rfl | rfl | rfl | rfl | rfl
    · exact .head _
    · exact .tail _ (.head _)
    · exact .tail _ (.tail _ (.head _))
    · exact .tail _ (.tail _ (.tail _ (.head _)))
    · exact .tail _ (.tail _ (.tail _ (.tail _ (.head _))))
    · exact .tail _ (.tail _ (.tail _ (.tail _ (.tail _ (.head _)))))
  · show σ16.lst 8 rA = _
    rw [G35.l4 8 rA hA]; exact lA
  · show σ16.lst 8 wA = _
    rw [G15.l4 8 wA hB]; exact lB
theorem law_ok {sa : Addr} {ns : List Int} {σ : H} (h2 : ∀ p f, σ.fld 2 p f = none) : B_law sa ns (some (.ext sa) :: List.replicate 15 none) σ (fun fl _ _ => fl = .ret (.bool true)) := by
  refine law1 h2 rfl fun σ1 a c f1 y11 y12 yn => law2 f1 y11 y12 yn fun σ3 lz f3 x3 => ?_
  refine q_asgC (e_tup (el_cons (e_bin (e_val Ev.con (e_call (by walk_at "ev") (sp_take x3 (by decide) fun σ4 r1 F4 x4 r10 r11 => k_add (el_cons (e_bin (e_val Ev.con (e_call (by walk_at "ev") (sp_take x4 (by decide) fun σ5 r2 F5 x5 r20 r21 => k_add (law3 (by rw [F5.fld, F4.fld]; exact f3) x5 fun σ6 tr ro b6 x6 => k_tup3 (k_asg3 ?_)))))))))))))
  refine law4 b6 x6 fun σ9 W9 owA stA d U em => ?_
  refine q_forR2 Ev.con (Ev.var rfl) ⟨by decide, by decide, by exact pc15, by exact pc17⟩ ?_
  have loop := su_loop (c := c) (tr := tr) (owA := owA) (stA := stA) (l0 := some (.ext sa)) (l2 := lz) (l3 := some (.int (3 + r1))) (l4 := some (.int (1 + r2))) (rest := [none, none, none, none, none, none]) (3 + r1 - 1).toNat σ9 W9 ⟨owA, stA, fun _ => d⟩ none none
  rw [em] at loop
  refine loop _ U (by omega) (by decide) rfl rfl fun σ10 W10 L10 l8 l9 U10 e10 ea eb => ?_
  have m10 : (W10.m : Int) = 3 + r1 := by omega
  subst ea eb
  unfold suLs
  refine law5 (c := 4) (by decide) (by exact pc15) (by omega) rfl fun σ12 rA s0 s1 s2 G11 ne1 e0 e1 e2 hA lA => ?_
  refine law5 (c := 5) (by decide) (by exact pc15) (by omega) rfl fun σ14 wA s3 s4 s5 G13 ne2 e3 e4 e5 hB lB => ?_
  refine law6 fun σ16 nA n0 n1 n2 n3 n4 n5 G15 inc nok lC => ?_
  have gi := gi_start U10 G11 G13 G15 ne1 ne2 e0 e1 e2 e3 e4 e5 hA hB lA lB inc nok lC
  refine q_forC (j_rng (e_bin (e_val Ev.con (e_call (by walk_at "ev") (sp_take gi.bx (by decide) fun σ17 r3 F17 x17 r30 r31 => k_add (k_ir ⟨by exact pc15, by exact pc17⟩ ?_))))))
  have fin := main_loop (7 + r3).toNat 0 σ17 _ (some (.ext sa)) lz (some (.int (1 + r2))) (some (.ref (.inst 1) tr)) l8 l9 none none none (KS (sCons (sRet (pK (.bool true))) sNil) fun fl _ _ => fl = .ret (.bool true)) (gi.frH F17.h (.refl W10 0) (F17.bi gi.bi) (F17.li gi.li) x17) (show 0 < W10.m by omega) fun ls σ' => q_ret Ev.con rfl
  unfold lawLs at fin
  rw [m10] at fin
  exact fin
end
section
noncomputable def hZ (i : Int) : Value := .int i 0
noncomputable def hFile (n : Nat) : Value := .str (Str.ofString "/claim/cut.py") n
noncomputable def hTup (l : List Value) : Obj := { cls := .type "tuple", data := .seq l.toArray }
noncomputable def hFld (l : List Value) : Obj := { cls := .none, data := .fields l.toArray }
noncomputable def hToks : List Str → Nat → List Value
  | [], _ => []
  | x :: r, n => .str x n :: hToks r (n + 1)
noncomputable def hLoc (sc : Scope) : List Str := match sc.more with | [] => (sc.names.filter fun p => p.2 == .local).map (·.1) | _ => []
noncomputable def hCode (nm qn : Str) (t line argc fl : Nat) (a : Addr) (b : Bool) (l c d : Value) (t2 : Nat) : Obj :=
  { cls := .type "code", data := .fields #[.str nm t, .str qn (t + 1), hFile (t + 2), hZ line, hZ argc, hZ 0, hZ 0, hZ fl, .ref a, .bool b, hZ 181, .ref (a + 1), .none, l, c, d, hZ t2, hZ line, hFile (t2 + 1)] }
noncomputable def hDef (cls : Str) (py : Value) (a t : Nat) : Stmt → List Obj
  | .FunctionDef nm ps b _ _ _ sc _ _ pos =>
    let qn := match cls.cps.toList with | [] => nm | _ => ⟨(cls.cps.toList ++ 46 :: nm.cps.toList).toArray⟩
    let f : FuncData := { name := nm, qualname := qn, params := ps, body := .stmts b, scope := sc, globals := 0, closure := [], defaults := .none, kwdefaults := .none }
    let g (c : Addr) : Obj := { cls := .type "function", data := .func { f with globals := 3, pyModule := py, code := .ref c } }
    match sc.more with
    | [] => [hTup [], hFld [], hTup (hToks (hLoc sc) (t + 3)), hTup [], { cls := .none, data := .func f }, hCode nm qn t pos.line ps.args.length 3 a true (.ref (a + 2)) (.ref (a + 3)) (.ref (a + 4)) (t + 3 + (hLoc sc).length), g (a + 5)]
    | _ => [hTup [], hFld [], { cls := .none, data := .func f }, hCode nm qn t pos.line ps.args.length 3 a true .none .none (.ref (a + 2)) (t + 3), g (a + 3)]
  | _ => []
noncomputable def hLen : Stmt → Nat × Nat
  | .FunctionDef _ _ _ _ _ _ sc _ _ _ => match sc.more with | [] => (7, (hLoc sc).length) | _ => (5, 0)
  | _ => (0, 0)
noncomputable def hDefs (cls : Str) (py : Value) : List Stmt → Nat → Nat → List Obj
  | [], _, _ => []
  | s :: r, a, t => hDef cls py a t s ++ hDefs cls py r (a + (hLen s).1) (t + 6 + (hLen s).2)
noncomputable def hEnd : List Stmt → Nat → Nat → Nat × Nat
  | [], a, t => (a, t)
  | s :: r, a, t => hEnd r (a + (hLen s).1) (t + 6 + (hLen s).2)
noncomputable def hEnt (P : Params) (x : Str) (n : Nat) (v : Value) : DictEntry := { hash := PyData.keyHash P x, key := .str x n, val := v }
noncomputable def hName : Stmt → Str × Nat × Nat
  | .FunctionDef nm _ _ _ _ _ _ _ _ pos => (nm, pos.line, pos.col)
  | .ClassDef nm _ _ _ _ _ _ _ _ _ pos => (nm, pos.line, pos.col)
  | _ => (⟨#[]⟩, 0, 0)
noncomputable def hKeys (P : Params) : List Stmt → Nat → Nat → List DictEntry
  | [], _, _ => []
  | s :: r, a, t => hEnt P (hName s).1 (t + 5 + (hLen s).2) (.ref (a + (hLen s).1 - 1)) :: hKeys P r (a + (hLen s).1) (t + 6 + (hLen s).2)
noncomputable def hLines : List Stmt → Nat → List Value
  | [], _ => []
  | s :: r, a => hZ (hName s).2.1 :: hZ (hName s).2.2 :: .ref (a + (hLen s).1 - 2) :: hLines r (a + (hLen s).1)
noncomputable def hK (x : String) : Str := Str.ofString x
noncomputable def hClass (P : Params) (a t : Nat) (py : Value) (base : Option Addr) (subs : List Value) : Stmt → List Obj
  | .ClassDef nm _ _ body _ _ _ _ _ sat pos =>
    let E := hEnd body (a + 7) (t + 12)
    let (e, m) := E
    let s := m + sat.length
    let c := match base with | none => e + 2 | some _ => e + 2
    let hd := hEnt P (hK "__module__") (t + 7) py
    let fl := hEnt P (hK "__firstlineno__") (t + 11) (.int pos.line (t + 10))
    let ks := hKeys P body (a + 7) (t + 12)
    let st := hEnt P (hK "__static_attributes__") s (.ref e)
    let frame : Obj := { cls := .type "frame", slots := #[some (.ref (a + 5)), some (.ref 3), some (.ref (a + 2)), none, some py, none, some (.ref 0)] }
    let gs (x y z : String) (w : Value) (n : Nat) : Obj := { cls := .type "getset_descriptor", data := .fields #[.str (hK x) n, .ref c, .builtin y, w] }
    [hTup (match base with | none => [] | some b => [.ref b]), { cls := .type "builtin_function_or_method", data := .fields #[.builtin "type.__prepare__", .type "type"] },
     { cls := .type "dict", data := .dict (hd :: hEnt P (hK "__qualname__") (t + 9) (.str nm (t + 8)) :: fl :: (ks ++ [st])).toArray (4 + ks.length) },
     hTup [], hFld (hLines body (a + 7)), hCode nm nm (t + 2) pos.line 0 0 (a + 3) false .none .none .none (t + 5), frame] ++ hDefs nm py body (a + 7) (t + 12) ++
    [hTup (hToks sat m),
     { cls := .type "dict", data := .dict (hd :: fl :: (ks ++ st :: (match base with
        | none => [hEnt P (hK "__dict__") (s + 2) (.ref (e + 3)), hEnt P (hK "__weakref__") (s + 4) (.ref (e + 4)), hEnt P (hK "__doc__") (s + 5) .none]
        | some _ => [hEnt P (hK "__doc__") (s + 1) .none]))).toArray (match base with | none => 4 | some _ => 2) },
     { cls := .type "type", data := .cls { name := nm, bases := [match base with | none => .type "object" | some b => .ref b], mro := match base with | none => [.ref c, .type "object"] | some b => [.ref c, .ref b, .type "object"], ns := e + 1, qualname := nm, subclasses := subs },
       slots := #[base.map fun _ => .ref a, none, some (.str nm t), some (.str nm (t + 8)), some (.builtin "object.__new__"), some (.bool true)] }] ++
    (match base with | none => [gs "__dict__" "function.__dict__" "" (.builtin "function.__dict__#set") (s + 1), gs "__weakref__" "ExceptionGroup.__weakref__" "" .none (s + 3)] | some _ => []) ++
    [{ cls := .type "super", data := .fields #[.ref c, .ref c, .ref c] }, { cls := .type "builtin_function_or_method", data := .fields #[.builtin "object.__init_subclass__", .ref c] }]
  | _ => []
set_option genInjectivity false in
structure HT where
  a : Nat
  t : Nat
  py : Value
  objs : List Obj
  ent : List DictEntry
  lines : List Value
noncomputable def hStep (P : Params) (subs : List Value) (h : HT) : Stmt → HT
  | .Assign [.Name x _] (.Constant (.int v) _ _) _ => { h with t := h.t + 2, ent := h.ent ++ [hEnt P x (h.t + 1) (.int v h.t)] }
  | .Assign [.Name _ _] (.Constant (.str v) _ _) _ => { h with t := h.t + 2, py := .str v h.t }
  | .FunctionDef nm ps b d r tp sc ts bd pos =>
    let st := Stmt.FunctionDef nm ps b d r tp sc ts bd pos
    { h with a := h.a + (hLen st).1, t := h.t + 6 + (hLen st).2, objs := h.objs ++ hDef ⟨#[]⟩ h.py h.a h.t st, ent := h.ent ++ hKeys P [st] h.a h.t, lines := h.lines ++ hLines [st] h.a }
  | .ClassDef nm bs k body d tp sc ts bd sat pos =>
    let st := Stmt.ClassDef nm bs k body d tp sc ts bd sat pos
    let base : Option Addr := match bs with | [] => none | _ => some 300
    let os := hClass P h.a h.t h.py base (match Nat.beq h.a 272 with | true => subs | false => []) st
    let (e, m) := hEnd body (h.a + 7) (h.t + 12)
    let z := m + sat.length + match base with | none => 8 | some _ => 4
    { h with a := h.a + os.length, t := z, objs := h.objs ++ os, ent := h.ent ++ [hEnt P nm (z - 1) (.ref (e + 2))], lines := h.lines ++ [hZ pos.line, hZ pos.col, .ref (h.a + 5)] }
  | _ => h
noncomputable def hState (P : Params) (subs : List Value) (k : Nat) (l : List Stmt) : HT := (l.take k).foldl (hStep P subs) ⟨15, 187, .str (hK "__main__") 164, [], [], []⟩
noncomputable def hMain (P : Params) (py : Value) (es : List DictEntry) : Obj := match boot_o_3 P with
  | ⟨c, d, .dict b n, s⟩ => ⟨c, d, .dict ((match b.toList with | e :: r => { e with val := py } :: r | [] => []) ++ es).toArray (n + es.length), s⟩
  | o => o
noncomputable def hObjs (P : Params) (h : HT) : List Obj :=
  [boot_o_0 P, boot_o_1 P, boot_o_2 P, hMain P h.py h.ent, boot_o_4 P, boot_o_5 P, boot_o_6 P, boot_o_7 P, boot_o_8 P, boot_o_9 P, boot_o_10 P,
   hTup [], hFld h.lines, { cls := .type "code", data := .fields #[.str (hK "<module>") 182, .str (hK "<module>") 183, hFile 184, hZ 1, hZ 0, hZ 0, hZ 0, hZ 0, .ref 11, .bool false, hZ 181, .ref 12, .none, .none, .none, .none, hZ 185, hZ 1, hFile 186] },
   { cls := .type "frame", slots := #[some (.ref 13), some (.ref 3), some (.ref 3), none, some (.str (hK "__main__") 164), none, some (.ref 0)] }] ++ h.objs
end
section
set_option maxRecDepth 100000
set_option maxHeartbeats 8000000
noncomputable def hTree : List Obj → Nat → BT → BT
  | [], _, t => t
  | o :: r, n, t => hTree r (n + 1) (t.ins n o)
abbrev hP : Program := PySem.Challenge.pw_nt0362_01
noncomputable def hT (P : Params) (subs : List Value) (k : Nat) (os : OsState) : SharedT :=
  ⟨hTree (hObjs P (hState P subs k hP.main.body)) 0 .nil, 15 + (hState P subs k hP.main.body).objs.length, {}, #[], {}, (hState P subs k hP.main.body).t, os⟩
noncomputable def hE : Env := { scope := hP.main.scope, locals := mainNs, globals := mainNs, cells := [], code := .ref 13, frame := some 14 }
noncomputable def hC : Code := .body (behindTheImports hP) hE
noncomputable def hPos (l c e f : Nat) : Pos := { line := l, col := c, endLine := e, endCol := f }
noncomputable abbrev hB : List Frame := [topFrame (hPos 0 0 0 0)]
theorem h1 (w : World) : (fun os => segRunT treeTable hP w 11 (some (.ref 6)) 1 37 (hT w.params [] 0 os) (piecesOf ((hP.main.body.drop 0).take 4) hE hC (hPos 0 0 0 0) hB)) = fun os => some (.next, hT w.params [] 4 os, hC, hPos 4 0 4 8) := by kernel_rfl
theorem h2 (w : World) : (fun os => segRunT treeTable hP w 11 (some (.ref 6)) 1 301 (hT w.params [] 4 os) (piecesOf ((hP.main.body.drop 4).take 1) hE hC (hPos 4 0 4 8) hB)) = fun os => some (.next, hT w.params [] 5 os, hC, hPos 5 0 34 35) := by kernel_rfl
theorem h3 (w : World) : (fun os => segRunT treeTable hP w 11 (some (.ref 6)) 1 394 (hT w.params [] 5 os) (piecesOf ((hP.main.body.drop 5).take 1) hE hC (hPos 5 0 34 35) hB)) = fun os => some (.next, hT w.params [] 6 os, hC, hPos 35 0 74 53) := by kernel_rfl
theorem h4 (w : World) : (fun os => segRunT treeTable hP w 11 (some (.ref 6)) 1 552 (hT w.params [] 6 os) (piecesOf ((hP.main.body.drop 6).take 1) hE hC (hPos 35 0 74 53) hB)) = fun os => some (.next, hT w.params [] 7 os, hC, hPos 75 0 152 86) := by kernel_rfl
theorem h5 (w : World) : (fun os => segRunT treeTable hP w 11 (some (.ref 6)) 1 37 (hT w.params [] 7 os) (piecesOf ((hP.main.body.drop 7).take 4) hE hC (hPos 75 0 152 86) hB)) = fun os => some (.next, hT w.params [] 11 os, hC, hPos 156 0 156 6) := by kernel_rfl
theorem h6 (w : World) : (fun os => segRunT treeTable hP w 11 (some (.ref 6)) 1 127 (hT w.params [] 11 os) (piecesOf ((hP.main.body.drop 11).take 4) hE hC (hPos 156 0 156 6) hB)) = fun os => some (.next, hT w.params [] 15 os, hC, hPos 173 0 185 23) := by kernel_rfl
theorem h7 (w : World) : (fun os => segRunT treeTable hP w 11 (some (.ref 6)) 1 295 (hT w.params [] 15 os) (piecesOf ((hP.main.body.drop 15).take 1) hE hC (hPos 173 0 185 23) hB)) = fun os => some (.next, hT w.params [] 16 os, hC, hPos 186 0 208 20) := by kernel_rfl
theorem h8 (w : World) : (fun os => segRunT treeTable hP w 11 (some (.ref 6)) 1 67 (hT w.params [] 16 os) (piecesOf ((hP.main.body.drop 16).take 2) hE hC (hPos 186 0 208 20) hB)) = fun os => some (.next, hT w.params [] 18 os, hC, hPos 219 0 228 16) := by kernel_rfl
theorem h9 (w : World) : (fun os => segRunT treeTable hP w 11 (some (.ref 6)) 1 290 (hT w.params [] 18 os) (piecesOf ((hP.main.body.drop 18).take 1) hE hC (hPos 219 0 228 16) hB)) = fun os => some (.next, hT w.params [] 19 os, hC, hPos 229 0 252 61) := by kernel_rfl
theorem h10 (w : World) : (fun os => segRunT treeTable hP w 11 (some (.ref 6)) 1 246 (hT w.params [] 19 os) (piecesOf ((hP.main.body.drop 19).take 1) hE hC (hPos 229 0 252 61) hB)) = fun os => some (.next, hT w.params [.ref 321] 20 os, hC, hPos 253 0 262 67) := by kernel_rfl
theorem h11 (w : World) : (fun os => segRunT treeTable hP w 11 (some (.ref 6)) 1 249 (hT w.params [.ref 321] 20 os) (piecesOf ((hP.main.body.drop 20).take 1) hE hC (hPos 253 0 262 67) hB)) = fun os => some (.next, hT w.params [.ref 321, .ref 340] 21 os, hC, hPos 263 0 279 27) := by kernel_rfl
theorem h12 (w : World) : (fun os => segRunT treeTable hP w 11 (some (.ref 6)) 1 98 (hT w.params [.ref 321, .ref 340] 21 os) (piecesOf ((hP.main.body.drop 21).take 4) hE hC (hPos 263 0 279 27) hB)) = fun os => some (.next, hT w.params [.ref 321, .ref 340] 25 os, hC, hPos 288 0 294 15) := by kernel_rfl
theorem h13 (w : World) : (fun os => segRunT treeTable hP w 11 (some (.ref 6)) 1 119 (hT w.params [.ref 321, .ref 340] 25 os) (piecesOf ((hP.main.body.drop 25).take 4) hE hC (hPos 288 0 294 15) hB)) = fun os => some (.next, hT w.params [.ref 321, .ref 340] 29 os, hC, hPos 318 0 323 60) := by kernel_rfl
theorem h14 (w : World) : (fun os => segRunT treeTable hP w 11 (some (.ref 6)) 1 108 (hT w.params [.ref 321, .ref 340] 29 os) (piecesOf ((hP.main.body.drop 29).take 3) hE hC (hPos 318 0 323 60) hB)) = fun os => some (.next, hT w.params [.ref 321, .ref 340] 32 os, hC, hPos 338 0 353 81) := by kernel_rfl
theorem h15 (w : World) : (fun os => segRunT treeTable hP w 11 (some (.ref 6)) 1 85 (hT w.params [.ref 321, .ref 340] 32 os) (piecesOf ((hP.main.body.drop 32).take 3) hE hC (hPos 338 0 353 81) hB)) = fun os => some (.next, hT w.params [.ref 321, .ref 340] 35 os, hC, hPos 378 0 401 15) := by kernel_rfl
end
section
set_option maxRecDepth 100000
set_option maxHeartbeats 8000000
theorem hpre (w : World) : (fun os => topGo treeTable hP w 11 (some (.ref 6)) 12 ⟨boot_heap w.params, #[], boot_drawn, boot_toks, os⟩ (topStub hP)) = fun os => some ((hT w.params [] 0 os).abs, ⟨denote treeTable hC, hC, hPos 0 0 0 0, hB⟩) := by kernel_rfl
theorem hblock (w : World) : (fun os => segRunT treeTable hP w 11 (some (.ref 6)) 1 1 (hT w.params [] 0 os) (blockOf (behindTheImports hP) hE hC (hPos 0 0 0 0) hB)) = fun os => some (.next, hT w.params [] 0 os, hC, hPos 0 0 0 0) := by kernel_rfl
theorem hfin (w : World) : (fun os => topRun treeTable hP w 11 (some (.ref 6)) 2 (hT w.params [.ref 321, .ref 340] 35 os).abs ⟨doneF .next, hC, hPos 378 0 401 15, hB⟩) = fun os => some (hT w.params [.ref 321, .ref 340] 35 os).abs := by kernel_rfl
theorem hbody : behindTheImports hP = (hP.main.body.drop 0).take 4 ++ ((hP.main.body.drop 4).take 1 ++ ((hP.main.body.drop 5).take 1 ++ ((hP.main.body.drop 6).take 1 ++ ((hP.main.body.drop 7).take 4 ++ ((hP.main.body.drop 11).take 4 ++ ((hP.main.body.drop 15).take 1 ++ ((hP.main.body.drop 16).take 2 ++ ((hP.main.body.drop 18).take 1 ++ ((hP.main.body.drop 19).take 1 ++ ((hP.main.body.drop 20).take 1 ++ ((hP.main.body.drop 21).take 4 ++ ((hP.main.body.drop 25).take 4 ++ ((hP.main.body.drop 29).take 3 ++ ((hP.main.body.drop 32).take 3 ++ ([]))))))))))))))) := by kernel_rfl
noncomputable abbrev hM : Nat := 12 + (1 + (37 + (301 + (394 + (552 + (37 + (127 + (295 + (67 + (290 + (246 + (249 + (98 + (119 + (108 + (85 + (2)))))))))))))))))
theorem hrun (w : World) (os : OsState) : topRun treeTable hP w 11 (some (.ref 6)) hM ⟨boot_heap w.params, #[], boot_drawn, boot_toks, os⟩ (topStub hP) = some (hT w.params [.ref 321, .ref 340] 35 os).abs := by
  refine go_top (congrFun (hpre w) os) (piece_block (segRun_of (congrFun (hblock w) os)) ?_)
  rw [hbody]
  exact (piece_app (segRun_of (congrFun (h1 w) os)) (piece_app (segRun_of (congrFun (h2 w) os)) (piece_app (segRun_of (congrFun (h3 w) os)) (piece_app (segRun_of (congrFun (h4 w) os)) (piece_app (segRun_of (congrFun (h5 w) os)) (piece_app (segRun_of (congrFun (h6 w) os)) (piece_app (segRun_of (congrFun (h7 w) os)) (piece_app (segRun_of (congrFun (h8 w) os)) (piece_app (segRun_of (congrFun (h9 w) os)) (piece_app (segRun_of (congrFun (h10 w) os)) (piece_app (segRun_of (congrFun (h11 w) os)) (piece_app (segRun_of (congrFun (h12 w) os)) (piece_app (segRun_of (congrFun (h13 w) os)) (piece_app (segRun_of (congrFun (h14 w) os)) (piece_app (segRun_of (congrFun (h15 w) os)) (piece_nil (congrFun (hfin w) os)))))))))))))))))
end
section
set_option maxRecDepth 100000
set_option maxHeartbeats 8000000
theorem hopen : ∀ w : World, (fencedOpening treeTable hP w 6106).map (fun s => (s.heap, s.gens, s.drawn, s.toks)) = some (boot_heap w.params, Array.mk [], boot_drawn, boot_toks) := boot_open (p := hP) (by kernel_rfl) (by rfl) (fun s => by kernel_rfl)
theorem hsize (w : World) : ((boot_heap w.params).isNs mainGlobals && (#[] : Array GenState).size == 0, (boot_heap w.params).objs.size, (boot_heap w.params).nsMap mainGlobals "__annotations__") = (true, 11, some (Value.ref 6)) := by kernel_rfl
theorem hle : Nat.ble hM 6106 = true := by kernel_rfl
def hQ : Program := view hP [1, 2, 3, 4, 5, 6, 8, 9, 10, 11, 12, 13, 14, 15, 16, 17, 18, 19, 20, 22, 23, 24, 25, 26, 27, 28, 29, 30, 31, 32, 33, 34]
noncomputable def hH (P : Params) : Heap := absHeap (hTree (hObjs P (hState P [.ref 321, .ref 340] 35 hP.main.body)) 0 .nil) 422 {}
theorem hl1 (w : World) : (fun os => (staticsOk (importedModules hP.main.body) (boot_heap w.params) (hH w.params) && namesBound hP (hH w.params) && gensDone ⟨hH w.params, #[], {}, 803, os⟩ && laidKept (boot_heap w.params) (hH w.params))) = fun _ => true := by kernel_rfl
abbrev hR : RowW := OpenRow.toRowW (OpenLaw.row PySem.Challenge.rw_nt0362_01)
theorem hl2 (w : World) : (fun os => openSeen hQ [] (importedModules hP.main.body) (fun s => xlAt hQ [] s && recOk (RowW.records hR) s) true ⟨hH w.params, #[], {}, 803, os⟩) = fun _ => openGood hQ [] := by kernel_rfl
end
section
set_option maxRecDepth 100000
theorem hend (w : World) : (fun os => (hT w.params [.ref 321, .ref 340] 35 os).abs) = fun os => ⟨hH w.params, #[], {}, 803, os⟩ := by kernel_rfl
theorem hleft {α : Type} {Yf : Shared → α} {Ya : World → α} (hY : ∀ w os, Yf ⟨hH w.params, #[], {}, 803, os⟩ = Ya w) : LeftO hP hQ [] (fun s => xlAt hQ [] s && recOk (RowW.records hR) s) Yf Ya 6106 :=
  LeftO.of_pieces (H₀ := boot_heap) (H₁ := hH) (m₀ := 11) (ann := some (.ref 6)) (M := hM) hopen hsize (fun w os => (hrun w os).trans (congrArg some (congrFun (hend w) os))) hle (fun w => funext fun os => by rw [congrFun (hl1 w) os, congrFun (hl2 w) os, hY w os])
end
section
set_option maxRecDepth 100000
set_option maxHeartbeats 8000000
noncomputable def hNum : List Obj → Nat → Frag
  | [], _ => []
  | o :: r, n => (n, o) :: hNum r (n + 1)
noncomputable def hFr (P : Params) : Frag := hNum (hObjs P (hState P [.ref 321, .ref 340] 35 hP.main.body)) 0
theorem hFrAs : ∀ P, List.range 422 = (hFr P).map (·.1) := fun P => by kernel_rfl
noncomputable abbrev hHook : Hook := kHook hFr (List.range 422) hFrAs
theorem hseen (w : World) : (fun os => hHook.obs ⟨hH w.params, #[], {}, 803, os⟩) = fun _ => hHook.val w := by kernel_rfl
abbrev hRL : OpenLaw := PySem.Challenge.rw_nt0362_01
abbrev hMB : List Stmt := hP.main.body
theorem hs1 : ((moduleNames hMB).isEmpty || lookedIntoSs (moduleNames hMB) hMB) = true := by kernel_rfl
theorem hs2 : namesResolve hP = true := by kernel_rfl
theorem hs3 : noRoadLSs { strict := !(importedModules hMB).all cThrough.contains, foot := none, bare := (["vars", "dir", "locals"] : List Str).filter (readsOut hP hMB) } hMB = true := by kernel_rfl
theorem hs4 : (namesMeet hP hMB fun _ n => attrL n) = true := by kernel_rfl
theorem hs5 : looksOpen hP = true := by
  unfold looksOpen
  repeat' (first | with_reducible exact hs1 | with_reducible exact hs2 | with_reducible exact hs3 | with_reducible exact hs4 | with_reducible refine look_both ?_ ?_)
  all_goals kernel_rfl
theorem hs6a : OpenRow.partSaid hRL.row = true := look_both (look_both (look_both (look_both (look_both (look_both (look_both (look_both (look_both (look_both (look_both (look_both (look_both (hs5) (by kernel_rfl)) (by kernel_rfl)) (by kernel_rfl)) (by kernel_rfl)) (by kernel_rfl)) (by kernel_rfl)) (by kernel_rfl)) (by kernel_rfl)) (by kernel_rfl)) (by kernel_rfl)) (by kernel_rfl)) (by kernel_rfl)) (by kernel_rfl)
theorem hs6 : hRL.row.wellSaid = true := look_both (look_both hs6a (by kernel_rfl)) (by kernel_rfl)
theorem hs7 : noRoadLSs { strict := true, foot := some hRL.bound', writes := hRL.writes, may := hRL.may } hRL.footing = true := by kernel_rfl
theorem hsaid : OpenLaw.wellSaid PySem.Challenge.rw_nt0362_01 = true := by
  unfold OpenLaw.wellSaid
  repeat' (first | with_reducible exact hs6 | with_reducible exact hs7 | with_reducible refine look_both ?_ ?_)
  all_goals kernel_rfl
end
section
set_option maxRecDepth 100000
set_option maxHeartbeats 8000000
theorem hgood : (chainsOk hQ && opensWell hP && (frees hR && (OpenLaw.row PySem.Challenge.rw_nt0362_01).within.isEmpty)) = true := by kernel_rfl
theorem hholds {d : DefRec} {kwd : List (Str × Expr)} (hdef : defOf hQ (OpenLaw.row PySem.Challenge.rw_nt0362_01).name = some (d, kwd)) (hp : hP.theDef (OpenLaw.row PySem.Challenge.rw_nt0362_01).name = some (d.params, d.body, d.scope)) (hk : kwWritten? d.params.kwonlyargs d.params.kw_defaults = some kwd) (hw : hR.promised)
    (call : WalkO hQ [] (XL hQ []) hHook.says hR d kwd fun f vs => PySem.call f vs) : PySem.Challenge.rw_nt0362_01.Holds :=
  holds_law hsaid fun said => holds_open (q := hQ) (loose := []) (Xt := fun s => xlAt hQ [] s && recOk (RowW.records hR) s) (XP := XL hQ []) (Yf := hHook.obs) (Ya := hHook.val) (YP := hHook.says) (N := 6106)
    (hleft fun w os => congrFun (hseen w) os) hHook.of hHook.keeps (fun s e => xl_of s (Bool.and_eq_true_iff.mp e).1) XL.keeps hdef hp hk (fun s e => recFacts_of (Bool.and_eq_true_iff.mp e).2) (by rfl) said hgood ⟨rfl, rfl, rfl, rfl, rfl, by decide +kernel⟩ hw call
end
section
set_option maxRecDepth 100000
set_option maxHeartbeats 8000000
noncomputable def hSt : List Stmt → Nat → Stmt
  | [], _ => .Pass default
  | s :: _, 0 => s
  | _ :: r, i + 1 => hSt r i
noncomputable def hCb (k : Nat) : List Stmt := match hSt hP.main.body k with | .ClassDef _ _ _ b _ _ _ _ _ _ _ => b | _ => []
noncomputable def hFnO (cls : Str) (py : Value) (c : Addr) : Stmt → Obj
  | .FunctionDef nm ps b _ _ _ sc _ _ _ => { cls := .type "function", data := .func { name := nm, qualname := match cls.cps.toList with | [] => nm | _ => ⟨(cls.cps.toList ++ 46 :: nm.cps.toList).toArray⟩, params := ps, body := .stmts b, scope := sc, globals := 3, closure := [], defaults := .none, kwdefaults := .none, pyModule := py, code := .ref c } }
  | _ => hTup []
noncomputable def hMod (p : Params) (k : Nat) : Value := (hState p [] k hP.main.body).py
theorem l28 (p : Params) : (hFr p).lookup 28 = some (hFnO (Str.ofString "Shape") (hMod p 4) 27 (hSt (hCb 4) 0)) := by kernel_rfl
theorem l35 (p : Params) : (hFr p).lookup 35 = some (hFnO (Str.ofString "Shape") (hMod p 4) 34 (hSt (hCb 4) 1)) := by kernel_rfl
theorem l42 (p : Params) : (hFr p).lookup 42 = some (hFnO (Str.ofString "Shape") (hMod p 4) 41 (hSt (hCb 4) 2)) := by kernel_rfl
theorem l63 (p : Params) : (hFr p).lookup 63 = some (hFnO (Str.ofString "ShapeTree") (hMod p 5) 62 (hSt (hCb 5) 0)) := by kernel_rfl
theorem l70 (p : Params) : (hFr p).lookup 70 = some (hFnO (Str.ofString "ShapeTree") (hMod p 5) 69 (hSt (hCb 5) 1)) := by kernel_rfl
theorem l77 (p : Params) : (hFr p).lookup 77 = some (hFnO (Str.ofString "ShapeTree") (hMod p 5) 76 (hSt (hCb 5) 2)) := by kernel_rfl
theorem l84 (p : Params) : (hFr p).lookup 84 = some (hFnO (Str.ofString "ShapeTree") (hMod p 5) 83 (hSt (hCb 5) 3)) := by kernel_rfl
theorem l91 (p : Params) : (hFr p).lookup 91 = some (hFnO (Str.ofString "ShapeTree") (hMod p 5) 90 (hSt (hCb 5) 4)) := by kernel_rfl
theorem l98 (p : Params) : (hFr p).lookup 98 = some (hFnO (Str.ofString "ShapeTree") (hMod p 5) 97 (hSt (hCb 5) 5)) := by kernel_rfl
theorem l119 (p : Params) : (hFr p).lookup 119 = some (hFnO (Str.ofString "Store") (hMod p 6) 118 (hSt (hCb 6) 0)) := by kernel_rfl
theorem l126 (p : Params) : (hFr p).lookup 126 = some (hFnO (Str.ofString "Store") (hMod p 6) 125 (hSt (hCb 6) 1)) := by kernel_rfl
theorem l133 (p : Params) : (hFr p).lookup 133 = some (hFnO (Str.ofString "Store") (hMod p 6) 132 (hSt (hCb 6) 2)) := by kernel_rfl
theorem l140 (p : Params) : (hFr p).lookup 140 = some (hFnO (Str.ofString "Store") (hMod p 6) 139 (hSt (hCb 6) 3)) := by kernel_rfl
theorem l145 (p : Params) : (hFr p).lookup 145 = some (hFnO (Str.ofString "Store") (hMod p 6) 144 (hSt (hCb 6) 4)) := by kernel_rfl
theorem l152 (p : Params) : (hFr p).lookup 152 = some (hFnO (Str.ofString "Store") (hMod p 6) 151 (hSt (hCb 6) 5)) := by kernel_rfl
theorem l159 (p : Params) : (hFr p).lookup 159 = some (hFnO (Str.ofString "Store") (hMod p 6) 158 (hSt (hCb 6) 6)) := by kernel_rfl
theorem l166 (p : Params) : (hFr p).lookup 166 = some (hFnO (Str.ofString "Store") (hMod p 6) 165 (hSt (hCb 6) 7)) := by kernel_rfl
theorem l173 (p : Params) : (hFr p).lookup 173 = some (hFnO (Str.ofString "Store") (hMod p 6) 172 (hSt (hCb 6) 8)) := by kernel_rfl
theorem l180 (p : Params) : (hFr p).lookup 180 = some (hFnO (Str.ofString "Store") (hMod p 6) 179 (hSt (hCb 6) 9)) := by kernel_rfl
theorem l187 (p : Params) : (hFr p).lookup 187 = some (hFnO (Str.ofString "Store") (hMod p 6) 186 (hSt (hCb 6) 10)) := by kernel_rfl
theorem l201 (p : Params) : (hFr p).lookup 201 = some (hFnO ⟨#[]⟩ (hMod p 11) 200 (hSt hP.main.body 11)) := by kernel_rfl
theorem l208 (p : Params) : (hFr p).lookup 208 = some (hFnO ⟨#[]⟩ (hMod p 12) 207 (hSt hP.main.body 12)) := by kernel_rfl
theorem l215 (p : Params) : (hFr p).lookup 215 = some (hFnO ⟨#[]⟩ (hMod p 13) 214 (hSt hP.main.body 13)) := by kernel_rfl
theorem l222 (p : Params) : (hFr p).lookup 222 = some (hFnO ⟨#[]⟩ (hMod p 14) 221 (hSt hP.main.body 14)) := by kernel_rfl
theorem l236 (p : Params) : (hFr p).lookup 236 = some (hFnO (Str.ofString "Entry") (hMod p 15) 235 (hSt (hCb 15) 0)) := by kernel_rfl
theorem l243 (p : Params) : (hFr p).lookup 243 = some (hFnO (Str.ofString "Entry") (hMod p 15) 242 (hSt (hCb 15) 1)) := by kernel_rfl
theorem l250 (p : Params) : (hFr p).lookup 250 = some (hFnO (Str.ofString "Entry") (hMod p 15) 249 (hSt (hCb 15) 2)) := by kernel_rfl
theorem l264 (p : Params) : (hFr p).lookup 264 = some (hFnO ⟨#[]⟩ (hMod p 16) 263 (hSt hP.main.body 16)) := by kernel_rfl
theorem l271 (p : Params) : (hFr p).lookup 271 = some (hFnO ⟨#[]⟩ (hMod p 17) 270 (hSt hP.main.body 17)) := by kernel_rfl
theorem l285 (p : Params) : (hFr p).lookup 285 = some (hFnO (Str.ofString "Site") (hMod p 18) 284 (hSt (hCb 18) 0)) := by kernel_rfl
theorem l292 (p : Params) : (hFr p).lookup 292 = some (hFnO (Str.ofString "Site") (hMod p 18) 291 (hSt (hCb 18) 1)) := by kernel_rfl
theorem l297 (p : Params) : (hFr p).lookup 297 = some (hFnO (Str.ofString "Site") (hMod p 18) 296 (hSt (hCb 18) 2)) := by kernel_rfl
theorem l318 (p : Params) : (hFr p).lookup 318 = some (hFnO (Str.ofString "ReadSite") (hMod p 19) 317 (hSt (hCb 19) 0)) := by kernel_rfl
theorem l337 (p : Params) : (hFr p).lookup 337 = some (hFnO (Str.ofString "WriteSite") (hMod p 20) 336 (hSt (hCb 20) 0)) := by kernel_rfl
theorem l349 (p : Params) : (hFr p).lookup 349 = some (hFnO ⟨#[]⟩ (hMod p 22) 348 (hSt hP.main.body 22)) := by kernel_rfl
theorem l354 (p : Params) : (hFr p).lookup 354 = some (hFnO ⟨#[]⟩ (hMod p 23) 353 (hSt hP.main.body 23)) := by kernel_rfl
theorem l361 (p : Params) : (hFr p).lookup 361 = some (hFnO ⟨#[]⟩ (hMod p 24) 360 (hSt hP.main.body 24)) := by kernel_rfl
theorem l366 (p : Params) : (hFr p).lookup 366 = some (hFnO ⟨#[]⟩ (hMod p 25) 365 (hSt hP.main.body 25)) := by kernel_rfl
theorem l373 (p : Params) : (hFr p).lookup 373 = some (hFnO ⟨#[]⟩ (hMod p 26) 372 (hSt hP.main.body 26)) := by kernel_rfl
theorem l380 (p : Params) : (hFr p).lookup 380 = some (hFnO ⟨#[]⟩ (hMod p 27) 379 (hSt hP.main.body 27)) := by kernel_rfl
theorem l385 (p : Params) : (hFr p).lookup 385 = some (hFnO ⟨#[]⟩ (hMod p 28) 384 (hSt hP.main.body 28)) := by kernel_rfl
theorem l390 (p : Params) : (hFr p).lookup 390 = some (hFnO ⟨#[]⟩ (hMod p 29) 389 (hSt hP.main.body 29)) := by kernel_rfl
theorem l397 (p : Params) : (hFr p).lookup 397 = some (hFnO ⟨#[]⟩ (hMod p 30) 396 (hSt hP.main.body 30)) := by kernel_rfl
theorem l404 (p : Params) : (hFr p).lookup 404 = some (hFnO ⟨#[]⟩ (hMod p 31) 403 (hSt hP.main.body 31)) := by kernel_rfl
theorem l409 (p : Params) : (hFr p).lookup 409 = some (hFnO ⟨#[]⟩ (hMod p 32) 408 (hSt hP.main.body 32)) := by kernel_rfl
theorem l416 (p : Params) : (hFr p).lookup 416 = some (hFnO ⟨#[]⟩ (hMod p 33) 415 (hSt hP.main.body 33)) := by kernel_rfl
theorem l421 (p : Params) : (hFr p).lookup 421 = some (hFnO ⟨#[]⟩ (hMod p 34) 420 (hSt hP.main.body 34)) := by kernel_rfl
end
section
set_option maxRecDepth 100000
set_option maxHeartbeats 8000000
theorem hDR_ex : (DefRec.ofStmt? (hSt hP.main.body 34)).isSome = true := by kernel_rfl
noncomputable def hDR : DefRec := Option.get _ hDR_ex
theorem hDR_eq : DefRec.ofStmt? (hSt hP.main.body 34) = some hDR := by kernel_rfl
theorem hmain {d : DefRec} (e : DefRec.ofStmt? (hSt hP.main.body 34) = some d) (hw : hR.promised) (call : WalkO hQ [] (XL hQ []) hHook.says hR d [] fun f vs => PySem.call f vs) : PySem.Challenge.rw_nt0362_01.Holds := by
  cases Option.some.inj (e.symm.trans hDR_eq)
  exact hholds (d := hDR) (kwd := []) (by kernel_rfl) (by kernel_rfl) (by kernel_rfl) hw call
end
section
set_option maxRecDepth 100000
set_option maxHeartbeats 4000000
open PyProof.V PySem.Spec
theorem sv {X : GC} {n : Nat} {sc : Scope} {names : List Str} {i : Nat} {x : Str} {pos : Pos} (hx : names[i]? = some x := by rfl) (hd : (x == ("__debug__" : Str)) = false := by decide) (hn : (x == ("__classdict__" : Str)) = false := by decide) : SoundE X n sc names (.Name x pos) (pV i) := s_var hx hd hn
theorem bind1 {f : FuncData} {ps : List Str} (H : ∀ a, bindArgs f ⟨[a], []⟩ = pure (ps.zip [a])) : ∀ us : List Value, us.length = 1 → bindArgs f ⟨us, []⟩ = pure (ps.zip us)
  | [a], _ => H a
theorem bind2 {f : FuncData} {ps : List Str} (H : ∀ a b, bindArgs f ⟨[a, b], []⟩ = pure (ps.zip [a, b])) : ∀ us : List Value, us.length = 2 → bindArgs f ⟨us, []⟩ = pure (ps.zip us)
  | [a, b], _ => H a b
theorem bind3 {f : FuncData} {ps : List Str} (H : ∀ a b c, bindArgs f ⟨[a, b, c], []⟩ = pure (ps.zip [a, b, c])) : ∀ us : List Value, us.length = 3 → bindArgs f ⟨us, []⟩ = pure (ps.zip us)
  | [a, b, c], _ => H a b c
theorem bind4 {f : FuncData} {ps : List Str} (H : ∀ a b c d, bindArgs f ⟨[a, b, c, d], []⟩ = pure (ps.zip [a, b, c, d])) : ∀ us : List Value, us.length = 4 → bindArgs f ⟨us, []⟩ = pure (ps.zip us)
  | [a, b, c, d], _ => H a b c d
theorem bind5 {f : FuncData} {ps : List Str} (H : ∀ a b c d e, bindArgs f ⟨[a, b, c, d, e], []⟩ = pure (ps.zip [a, b, c, d, e])) : ∀ us : List Value, us.length = 5 → bindArgs f ⟨us, []⟩ = pure (ps.zip us)
  | [a, b, c, d, e], _ => H a b c d e
theorem bind6 {f : FuncData} {ps : List Str} (H : ∀ a b c d e g, bindArgs f ⟨[a, b, c, d, e, g], []⟩ = pure (ps.zip [a, b, c, d, e, g])) : ∀ us : List Value, us.length = 6 → bindArgs f ⟨us, []⟩ = pure (ps.zip us)
  | [a, b, c, d, e, g], _ => H a b c d e g
noncomputable def fnames : List Str := [Str.ofString "number", Str.ofString "before", Str.ofString "proto", Str.ofString "key", Str.ofString "flags", Str.ofString "size", Str.ofString "is_open", Str.ofString "later", Str.ofString "closed", Str.ofString "places", Str.ofString "limit", Str.ofString "made", Str.ofString "roots", Str.ofString "tree", Str.ofString "shape", Str.ofString "slots", Str.ofString "table", Str.ofString "is_alone", Str.ofString "alone_proto", Str.ofString "alone_open", Str.ofString "guards", Str.ofString "steps", Str.ofString "slot", Str.ofString "entries", Str.ofString "is_lost", Str.ofString "hits", Str.ofString "misses"]
noncomputable def clsTab : Nat → Addr | 0 => 45 | 1 => 101 | 2 => 190 | 3 => 253 | 4 => 321 | 5 => 340 | _ => 0
structure GX (X : GC) (p : Params) : Prop where
  K : X.K = hFr p
  c : X.clsA = clsTab
  n : X.ncls = 6
  f : X.fname = fnames
section
variable {X : GC} {p : Params} (G : GX X p)
include G
theorem GX.fx (i : Nat) {x : Str} (h : fnames[i]? = some x := by rfl) : X.fname[i]? = some x := G.f ▸ h
theorem GX.nf {x : Str} (h : x ∉ fnames := by decide) : x ∉ X.fname := G.f ▸ h
theorem GX.fn {a : Addr} {o : Obj} (h : (hFr p).lookup a = some o) : X.K.lookup a = some o := G.K ▸ h
theorem GX.code {cd : Value} {q : Str} (h : codeIn (hFr p) cd q = true) : codeIn X.K cd q = true := G.K ▸ h
theorem GX.ns {x : Str} {r : Option (Option Value)} (h : nsIn (hFr p) mainGlobals x = r) : nsIn X.K mainGlobals x = r := G.K ▸ h
theorem GX.keep {v : Value} (h : keepIn (hFr p) v = true) : keepIn X.K v = true := G.K ▸ h
theorem GX.find {c : Nat} {a : Addr} {x : Str} {r : Option (Option Value)} (hc : clsTab c = a) (h : findIn (hFr p) (.ref a) x = r) : findIn X.K (.ref (X.clsA c)) x = r := by rw [G.c, hc, G.K]; exact h
theorem GX.ty {v : Value} {r : Option Value} (h : typeIn (hFr p) v = r) : typeIn X.K v = r := G.K ▸ h
theorem GX.new {c fI a k : Nat} {F : F1} (hc : clsTab c = a) (h6 : c < 6) (hi : findIn (hFr p) (.ref a) "__init__" = some (some (.ref fI))) (ht : typeIn (hFr p) (.ref fI) = some (.type "function")) (hF : SoundF X k fI F) : SoundF X (k + 1) a (fNew c F) := by
  have := f_new (X := X) (n := k) (c := c) (fI := fI) (F := F) (by rw [G.n]; exact h6) (G.find hc hi) (G.ty ht) hF
  rw [G.c, hc] at this
  exact this
theorem GX.meth {n k : Nat} {name : Str} {c a f : Nat} {F : F1} (hc : clsTab c = a) (hi : findIn (hFr p) (.ref a) name = some (some (.ref f))) (ht : typeIn (hFr p) (.ref f) = some (.type "function")) (hk : keepIn (hFr p) (.ref f) = true) (hF : SoundF X k f F) (h : k ≤ n) : MethOk X n name c F :=
  ⟨f, k, G.find hc hi, G.ty ht, G.keep hk, hF, h⟩
end
theorem meth_nil {X : GC} {n : Nat} {name : Str} : ∀ p ∈ ([] : List (Nat × F1)), MethOk X n name p.1 p.2 := fun p h => by cases h
theorem meth_cons {X : GC} {n : Nat} {name : Str} {c : Nat} {F : F1} {l : List (Nat × F1)} (h : MethOk X n name c F) (hr : ∀ p ∈ l, MethOk X n name p.1 p.2) : ∀ p ∈ (c, F) :: l, MethOk X n name p.1 p.2 := fun p hp => by
  cases hp with
  | head => exact h
  | tail _ hp => exact hr p hp
section
variable {X : GC} {p : Params} (G : GX X p)
include G
theorem g_W : nsIn X.K mainGlobals "W" = some (some (.int 1 189)) := G.ns (by kernel_rfl)
theorem g_ALL : nsIn X.K mainGlobals "ALL" = some (some (.int 7 191)) := G.ns (by kernel_rfl)
theorem g_ACCESSOR : nsIn X.K mainGlobals "ACCESSOR" = some (some (.int 8 193)) := G.ns (by kernel_rfl)
theorem g_REFUSED : nsIn X.K mainGlobals "REFUSED" = some (some (.int 0 456)) := G.ns (by kernel_rfl)
theorem g_DONE : nsIn X.K mainGlobals "DONE" = some (some (.int 1 458)) := G.ns (by kernel_rfl)
theorem g_SETTER : nsIn X.K mainGlobals "SETTER" = some (some (.int 2 460)) := G.ns (by kernel_rfl)
theorem g_no_len : nsIn X.K mainGlobals "len" = some none := G.ns (by kernel_rfl)
theorem g_no_repr : nsIn X.K mainGlobals "repr" = some none := G.ns (by kernel_rfl)
theorem g_no_str : nsIn X.K mainGlobals "str" = some none := G.ns (by kernel_rfl)
theorem g_no_int : nsIn X.K mainGlobals "int" = some none := G.ns (by kernel_rfl)
theorem g_no_dict : nsIn X.K mainGlobals "dict" = some none := G.ns (by kernel_rfl)
theorem g_no_enumerate : nsIn X.K mainGlobals "enumerate" = some none := G.ns (by kernel_rfl)
theorem g_no_zip : nsIn X.K mainGlobals "zip" = some none := G.ns (by kernel_rfl)
theorem g_no_range : nsIn X.K mainGlobals "range" = some none := G.ns (by kernel_rfl)
theorem g_Shape : nsIn X.K mainGlobals "Shape" = some (some (.ref 45)) := G.ns (by kernel_rfl)
theorem k_Shape : keepIn X.K (.ref 45) = true := G.keep (by kernel_rfl)
theorem new_Shape {k : Nat} {F : F1} (h : SoundF X k 28 F) : SoundF X (k + 1) 45 (fNew 0 F) := G.new rfl (by decide) (by kernel_rfl) (by kernel_rfl) h
theorem g_ShapeTree : nsIn X.K mainGlobals "ShapeTree" = some (some (.ref 101)) := G.ns (by kernel_rfl)
theorem k_ShapeTree : keepIn X.K (.ref 101) = true := G.keep (by kernel_rfl)
theorem new_ShapeTree {k : Nat} {F : F1} (h : SoundF X k 63 F) : SoundF X (k + 1) 101 (fNew 1 F) := G.new rfl (by decide) (by kernel_rfl) (by kernel_rfl) h
theorem g_Store : nsIn X.K mainGlobals "Store" = some (some (.ref 190)) := G.ns (by kernel_rfl)
theorem k_Store : keepIn X.K (.ref 190) = true := G.keep (by kernel_rfl)
theorem new_Store {k : Nat} {F : F1} (h : SoundF X k 119 F) : SoundF X (k + 1) 190 (fNew 2 F) := G.new rfl (by decide) (by kernel_rfl) (by kernel_rfl) h
theorem g_Entry : nsIn X.K mainGlobals "Entry" = some (some (.ref 253)) := G.ns (by kernel_rfl)
theorem k_Entry : keepIn X.K (.ref 253) = true := G.keep (by kernel_rfl)
theorem new_Entry {k : Nat} {F : F1} (h : SoundF X k 236 F) : SoundF X (k + 1) 253 (fNew 3 F) := G.new rfl (by decide) (by kernel_rfl) (by kernel_rfl) h
theorem g_ReadSite : nsIn X.K mainGlobals "ReadSite" = some (some (.ref 321)) := G.ns (by kernel_rfl)
theorem k_ReadSite : keepIn X.K (.ref 321) = true := G.keep (by kernel_rfl)
theorem new_ReadSite {k : Nat} {F : F1} (h : SoundF X k 285 F) : SoundF X (k + 1) 321 (fNew 4 F) := G.new rfl (by decide) (by kernel_rfl) (by kernel_rfl) h
theorem g_WriteSite : nsIn X.K mainGlobals "WriteSite" = some (some (.ref 340)) := G.ns (by kernel_rfl)
theorem k_WriteSite : keepIn X.K (.ref 340) = true := G.keep (by kernel_rfl)
theorem new_WriteSite {k : Nat} {F : F1} (h : SoundF X k 285 F) : SoundF X (k + 1) 340 (fNew 5 F) := G.new rfl (by decide) (by kernel_rfl) (by kernel_rfl) h
theorem m_Shape_rows {n k : Nat} {F : F1} (h : SoundF X k 35 F) (hk : k ≤ n := by decide) : MethOk X n "rows" 0 F := G.meth rfl (by kernel_rfl) (by kernel_rfl) (by kernel_rfl) h hk
theorem m_Shape_place {n k : Nat} {F : F1} (h : SoundF X k 42 F) (hk : k ≤ n := by decide) : MethOk X n "place" 0 F := G.meth rfl (by kernel_rfl) (by kernel_rfl) (by kernel_rfl) h hk
theorem m_ShapeTree_next_number {n k : Nat} {F : F1} (h : SoundF X k 70 F) (hk : k ≤ n := by decide) : MethOk X n "next_number" 1 F := G.meth rfl (by kernel_rfl) (by kernel_rfl) (by kernel_rfl) h hk
theorem m_ShapeTree_root {n k : Nat} {F : F1} (h : SoundF X k 77 F) (hk : k ≤ n := by decide) : MethOk X n "root" 1 F := G.meth rfl (by kernel_rfl) (by kernel_rfl) (by kernel_rfl) h hk
theorem m_ShapeTree_added {n k : Nat} {F : F1} (h : SoundF X k 84 F) (hk : k ≤ n := by decide) : MethOk X n "added" 1 F := G.meth rfl (by kernel_rfl) (by kernel_rfl) (by kernel_rfl) h hk
theorem m_ShapeTree_shut {n k : Nat} {F : F1} (h : SoundF X k 91 F) (hk : k ≤ n := by decide) : MethOk X n "shut" 1 F := G.meth rfl (by kernel_rfl) (by kernel_rfl) (by kernel_rfl) h hk
theorem m_ShapeTree_built {n k : Nat} {F : F1} (h : SoundF X k 98 F) (hk : k ≤ n := by decide) : MethOk X n "built" 1 F := G.meth rfl (by kernel_rfl) (by kernel_rfl) (by kernel_rfl) h hk
theorem m_Store_above {n k : Nat} {F : F1} (h : SoundF X k 126 F) (hk : k ≤ n := by decide) : MethOk X n "above" 2 F := G.meth rfl (by kernel_rfl) (by kernel_rfl) (by kernel_rfl) h hk
theorem m_Store_can_grow {n k : Nat} {F : F1} (h : SoundF X k 133 F) (hk : k ≤ n := by decide) : MethOk X n "can_grow" 2 F := G.meth rfl (by kernel_rfl) (by kernel_rfl) (by kernel_rfl) h hk
theorem m_Store_find {n k : Nat} {F : F1} (h : SoundF X k 140 F) (hk : k ≤ n := by decide) : MethOk X n "find" 2 F := G.meth rfl (by kernel_rfl) (by kernel_rfl) (by kernel_rfl) h hk
theorem m_Store_rows {n k : Nat} {F : F1} (h : SoundF X k 145 F) (hk : k ≤ n := by decide) : MethOk X n "rows" 2 F := G.meth rfl (by kernel_rfl) (by kernel_rfl) (by kernel_rfl) h hk
theorem m_Store_go_alone {n k : Nat} {F : F1} (h : SoundF X k 152 F) (hk : k ≤ n := by decide) : MethOk X n "go_alone" 2 F := G.meth rfl (by kernel_rfl) (by kernel_rfl) (by kernel_rfl) h hk
theorem m_Store_put {n k : Nat} {F : F1} (h : SoundF X k 159 F) (hk : k ≤ n := by decide) : MethOk X n "put" 2 F := G.meth rfl (by kernel_rfl) (by kernel_rfl) (by kernel_rfl) h hk
theorem m_Store_reflag {n k : Nat} {F : F1} (h : SoundF X k 166 F) (hk : k ≤ n := by decide) : MethOk X n "reflag" 2 F := G.meth rfl (by kernel_rfl) (by kernel_rfl) (by kernel_rfl) h hk
theorem m_Store_remove {n k : Nat} {F : F1} (h : SoundF X k 173 F) (hk : k ≤ n := by decide) : MethOk X n "remove" 2 F := G.meth rfl (by kernel_rfl) (by kernel_rfl) (by kernel_rfl) h hk
theorem m_Store_close {n k : Nat} {F : F1} (h : SoundF X k 180 F) (hk : k ≤ n := by decide) : MethOk X n "close" 2 F := G.meth rfl (by kernel_rfl) (by kernel_rfl) (by kernel_rfl) h hk
theorem m_Store_set_proto {n k : Nat} {F : F1} (h : SoundF X k 187 F) (hk : k ≤ n := by decide) : MethOk X n "set_proto" 2 F := G.meth rfl (by kernel_rfl) (by kernel_rfl) (by kernel_rfl) h hk
theorem g_holder_of : nsIn X.K mainGlobals "holder_of" = some (some (.ref 201)) := G.ns (by kernel_rfl)
theorem k_holder_of : keepIn X.K (.ref 201) = true := G.keep (by kernel_rfl)
theorem g_look : nsIn X.K mainGlobals "look" = some (some (.ref 208)) := G.ns (by kernel_rfl)
theorem k_look : keepIn X.K (.ref 208) = true := G.keep (by kernel_rfl)
theorem g_may_come : nsIn X.K mainGlobals "may_come" = some (some (.ref 215)) := G.ns (by kernel_rfl)
theorem k_may_come : keepIn X.K (.ref 215) = true := G.keep (by kernel_rfl)
theorem g_write : nsIn X.K mainGlobals "write" = some (some (.ref 222)) := G.ns (by kernel_rfl)
theorem k_write : keepIn X.K (.ref 222) = true := G.keep (by kernel_rfl)
theorem m_Entry_holds {n k : Nat} {F : F1} (h : SoundF X k 243 F) (hk : k ≤ n := by decide) : MethOk X n "holds" 3 F := G.meth rfl (by kernel_rfl) (by kernel_rfl) (by kernel_rfl) h hk
theorem m_Entry_holder {n k : Nat} {F : F1} (h : SoundF X k 250 F) (hk : k ≤ n := by decide) : MethOk X n "holder" 3 F := G.meth rfl (by kernel_rfl) (by kernel_rfl) (by kernel_rfl) h hk
theorem g_guards_up : nsIn X.K mainGlobals "guards_up" = some (some (.ref 264)) := G.ns (by kernel_rfl)
theorem k_guards_up : keepIn X.K (.ref 264) = true := G.keep (by kernel_rfl)
theorem g_learnt : nsIn X.K mainGlobals "learnt" = some (some (.ref 271)) := G.ns (by kernel_rfl)
theorem k_learnt : keepIn X.K (.ref 271) = true := G.keep (by kernel_rfl)
theorem m_ReadSite_entry_for {n k : Nat} {F : F1} (h : SoundF X k 292 F) (hk : k ≤ n := by decide) : MethOk X n "entry_for" 4 F := G.meth rfl (by kernel_rfl) (by kernel_rfl) (by kernel_rfl) h hk
theorem m_WriteSite_entry_for {n k : Nat} {F : F1} (h : SoundF X k 292 F) (hk : k ≤ n := by decide) : MethOk X n "entry_for" 5 F := G.meth rfl (by kernel_rfl) (by kernel_rfl) (by kernel_rfl) h hk
theorem m_ReadSite_learn {n k : Nat} {F : F1} (h : SoundF X k 297 F) (hk : k ≤ n := by decide) : MethOk X n "learn" 4 F := G.meth rfl (by kernel_rfl) (by kernel_rfl) (by kernel_rfl) h hk
theorem m_WriteSite_learn {n k : Nat} {F : F1} (h : SoundF X k 297 F) (hk : k ≤ n := by decide) : MethOk X n "learn" 5 F := G.meth rfl (by kernel_rfl) (by kernel_rfl) (by kernel_rfl) h hk
theorem m_ReadSite_read {n k : Nat} {F : F1} (h : SoundF X k 318 F) (hk : k ≤ n := by decide) : MethOk X n "read" 4 F := G.meth rfl (by kernel_rfl) (by kernel_rfl) (by kernel_rfl) h hk
theorem m_WriteSite_write_to {n k : Nat} {F : F1} (h : SoundF X k 337 F) (hk : k ≤ n := by decide) : MethOk X n "write_to" 5 F := G.meth rfl (by kernel_rfl) (by kernel_rfl) (by kernel_rfl) h hk
theorem g_law_take : nsIn X.K mainGlobals "_law_take" = some (some (.ref 349)) := G.ns (by kernel_rfl)
theorem k_law_take : keepIn X.K (.ref 349) = true := G.keep (by kernel_rfl)
theorem g_law_own : nsIn X.K mainGlobals "_law_own" = some (some (.ref 354)) := G.ns (by kernel_rfl)
theorem k_law_own : keepIn X.K (.ref 354) = true := G.keep (by kernel_rfl)
theorem g_law_seen : nsIn X.K mainGlobals "_law_seen" = some (some (.ref 361)) := G.ns (by kernel_rfl)
theorem k_law_seen : keepIn X.K (.ref 361) = true := G.keep (by kernel_rfl)
theorem g_law_put : nsIn X.K mainGlobals "_law_put" = some (some (.ref 366)) := G.ns (by kernel_rfl)
theorem k_law_put : keepIn X.K (.ref 366) = true := G.keep (by kernel_rfl)
theorem g_law_written : nsIn X.K mainGlobals "_law_written" = some (some (.ref 373)) := G.ns (by kernel_rfl)
theorem k_law_written : keepIn X.K (.ref 373) = true := G.keep (by kernel_rfl)
theorem g_law_shared : nsIn X.K mainGlobals "_law_shared" = some (some (.ref 380)) := G.ns (by kernel_rfl)
theorem k_law_shared : keepIn X.K (.ref 380) = true := G.keep (by kernel_rfl)
theorem g_law_learnt : nsIn X.K mainGlobals "_law_learnt" = some (some (.ref 385)) := G.ns (by kernel_rfl)
theorem k_law_learnt : keepIn X.K (.ref 385) = true := G.keep (by kernel_rfl)
theorem g_law_keeps : nsIn X.K mainGlobals "_law_keeps" = some (some (.ref 390)) := G.ns (by kernel_rfl)
theorem k_law_keeps : keepIn X.K (.ref 390) = true := G.keep (by kernel_rfl)
theorem g_law_read_right : nsIn X.K mainGlobals "_law_read_right" = some (some (.ref 397)) := G.ns (by kernel_rfl)
theorem k_law_read_right : keepIn X.K (.ref 397) = true := G.keep (by kernel_rfl)
theorem g_law_write_right : nsIn X.K mainGlobals "_law_write_right" = some (some (.ref 404)) := G.ns (by kernel_rfl)
theorem k_law_write_right : keepIn X.K (.ref 404) = true := G.keep (by kernel_rfl)
theorem g_law_change : nsIn X.K mainGlobals "_law_change" = some (some (.ref 409)) := G.ns (by kernel_rfl)
theorem k_law_change : keepIn X.K (.ref 409) = true := G.keep (by kernel_rfl)
theorem g_law_all_right : nsIn X.K mainGlobals "_law_all_right" = some (some (.ref 416)) := G.ns (by kernel_rfl)
theorem k_law_all_right : keepIn X.K (.ref 416) = true := G.keep (by kernel_rfl)
end
end
section
set_option maxRecDepth 100000
set_option maxHeartbeats 4000000
open PyProof.V PySem.Spec
theorem h_Shape_init {X : GC} {p : Params} (G : GX X p) : SoundF X 1 28 F_Shape_init := by
  refine f_def (n := 0) (ps := ["self", "number", "before", "proto"]) (rest := []) (G.fn (l28 _)) (G.code (by kernel_rfl)) (bind4 fun _ _ _ _ => by rfl) rfl rfl (by decide) (by rfl) (by decide) ?_
  · exact (b_cons (t_putF sv sv (G.fx 0))
    (b_cons (t_putF sv sv (G.fx 1))
    (b_cons (t_putF sv sv (G.fx 2))
    (b_cons (t_putF s_none sv (G.fx 3))
    (b_cons (t_putF s_int sv (G.fx 4))
    (b_cons (t_putF (s_if (t_cmp c_is sv s_none rfl) s_int (s_attr sv (G.fx 5))) sv (G.fx 5))
    (b_cons (t_putF (s_or (s_cmp c_is sv s_none rfl) (s_one (s_attr sv (G.fx 6)))) sv (G.fx 6))
    (b_cons (t_putF s_dict0T sv (G.fx 7))
    (b_cons (t_putF s_none sv (G.fx 8))
    (b_cons (t_putF s_none sv (G.fx 9))
    b_nil))))))))))
theorem h_Shape_rows {X : GC} {p : Params} (G : GX X p) : SoundF X 1 35 F_Shape_rows := by
  refine f_def (n := 0) (ps := ["self"]) (rest := ["found", "shape"]) (G.fn (l35 _)) (G.code (by kernel_rfl)) (bind1 fun _ => by rfl) rfl rfl (by decide) (by rfl) (by decide) ?_
  · exact (b_cons (t_set (s_list es_nil) rfl (.inl rfl))
    (b_cons (t_set sv rfl (.inl rfl))
    (b_cons (t_while (t_cmp c_isNot sv s_none rfl) (b_cons (t_if (t_cmp c_isNot (s_attr sv (G.fx 3)) s_none rfl) (b_cons (t_expr (s_append sv (s_tup (es_cons (s_attr sv (G.fx 3)) (es_cons (s_attr sv (G.fx 4)) es_nil) rfl)) rfl (fun _ => rfl) rfl))
    b_nil) b_nil)
    (b_cons (t_set (s_attr sv (G.fx 1)) rfl (.inl rfl))
    b_nil)))
    (b_cons (t_expr (s_rev sv (fun _ => rfl) rfl))
    (b_cons (t_ret sv)
    b_nil)))))
theorem h_Shape_place {X : GC} {p : Params} (G : GX X p) : SoundF X 2 42 F_Shape_place := by
  refine f_def (n := 1) (ps := ["self", "key"]) (rest := ["slot", "row"]) (G.fn (l42 _)) (G.code (by kernel_rfl)) (bind2 fun _ _ => by rfl) rfl rfl (by decide) (by rfl) (by decide) ?_
  · exact (b_cons (t_if (t_cmp c_is (s_attr sv (G.fx 9)) s_none rfl) (b_cons (t_putF s_dict0S sv (G.fx 9))
    (b_cons (t_for (i_enum ⟨rfl, g_no_enumerate G, by rfl, by decide, by decide, by rfl⟩ (s_meth sv es_nil rfl (by decide) (meth_cons (m_Shape_rows G (h_Shape_rows G)) meth_nil) G.nf) rfl rfl) (a_tup (as_cons (a_name rfl (.inl rfl)) (as_cons (a_name rfl (.inl rfl)) as_nil rfl) rfl) rfl rfl) (b_cons (t_putI (s_tup (es_cons sv (es_cons (s_sub sv s_int) es_nil) rfl)) (s_attr sv (G.fx 9)) (s_sub sv s_int))
    b_nil))
    b_nil)) b_nil)
    (b_cons (t_ret (s_get (s_attr sv (G.fx 9)) sv rfl (fun _ => rfl) rfl))
    b_nil))
theorem h_ShapeTree_init {X : GC} {p : Params} (G : GX X p) : SoundF X 1 63 F_ShapeTree_init := by
  refine f_def (n := 0) (ps := ["self", "limit"]) (rest := []) (G.fn (l63 _)) (G.code (by kernel_rfl)) (bind2 fun _ _ => by rfl) rfl rfl (by decide) (by rfl) (by decide) ?_
  · exact (b_cons (t_putF sv sv (G.fx 10))
    (b_cons (t_putF s_int sv (G.fx 11))
    (b_cons (t_putF s_dict0I sv (G.fx 12))
    b_nil)))
theorem h_ShapeTree_next_number {X : GC} {p : Params} (G : GX X p) : SoundF X 1 70 F_ShapeTree_next_number := by
  refine f_def (n := 0) (ps := ["self"]) (rest := []) (G.fn (l70 _)) (G.code (by kernel_rfl)) (bind1 fun _ => by rfl) rfl rfl (by decide) (by rfl) (by decide) ?_
  · exact (b_cons (t_augF s_int sv (G.fx 11))
    (b_cons (t_ret (s_attr sv (G.fx 11)))
    b_nil))
theorem h_ShapeTree_root {X : GC} {p : Params} (G : GX X p) : SoundF X 3 77 F_ShapeTree_root := by
  refine f_def (n := 2) (ps := ["self", "proto"]) (rest := ["key"]) (G.fn (l77 _)) (G.code (by kernel_rfl)) (bind2 fun _ _ => by rfl) rfl rfl (by decide) (by rfl) (by decide) ?_
  · exact (b_cons (t_set (s_if (t_cmp c_is sv s_none rfl) s_int (s_attr sv (G.fx 0))) rfl (.inl rfl))
    (b_cons (t_if (t_cmp c_notIn sv (s_attr sv (G.fx 12)) rfl) (b_cons (t_putI (s_call (k := 2) rfl (g_Shape G) (by decide) (k_Shape G) (new_Shape G (h_Shape_init G)) (by decide) (es_cons (s_meth sv es_nil rfl (by decide) (meth_cons (m_ShapeTree_next_number G (h_ShapeTree_next_number G)) meth_nil) G.nf) (es_cons s_none (es_cons sv es_nil) rfl) rfl) rfl) (s_attr sv (G.fx 12)) sv)
    b_nil) b_nil)
    (b_cons (t_ret (s_sub (s_attr sv (G.fx 12)) sv))
    b_nil)))
theorem h_ShapeTree_added {X : GC} {p : Params} (G : GX X p) : SoundF X 3 84 F_ShapeTree_added := by
  refine f_def (n := 2) (ps := ["self", "shape", "key", "flags"]) (rest := ["step", "later"]) (G.fn (l84 _)) (G.code (by kernel_rfl)) (bind4 fun _ _ _ _ => by rfl) rfl rfl (by decide) (by rfl) (by decide) ?_
  · exact (b_cons (t_set (s_tup (es_cons sv (es_cons sv es_nil) rfl)) rfl (.inl rfl))
    (b_cons (t_if (t_cmp c_notIn sv (s_attr sv (G.fx 7)) rfl) (b_cons (t_set (s_call (k := 2) rfl (g_Shape G) (by decide) (k_Shape G) (new_Shape G (h_Shape_init G)) (by decide) (es_cons (s_meth sv es_nil rfl (by decide) (meth_cons (m_ShapeTree_next_number G (h_ShapeTree_next_number G)) meth_nil) G.nf) (es_cons sv (es_cons (s_attr sv (G.fx 2)) es_nil) rfl) rfl) rfl) rfl (.inl rfl))
    (b_cons (t_putF sv sv (G.fx 3))
    (b_cons (t_putF sv sv (G.fx 4))
    (b_cons (t_putF (s_bin o_add (s_attr sv (G.fx 5)) s_int) sv (G.fx 5))
    (b_cons (t_putI sv (s_attr sv (G.fx 7)) sv)
    b_nil))))) b_nil)
    (b_cons (t_ret (s_sub (s_attr sv (G.fx 7)) sv))
    b_nil)))
theorem h_ShapeTree_shut {X : GC} {p : Params} (G : GX X p) : SoundF X 3 91 F_ShapeTree_shut := by
  refine f_def (n := 2) (ps := ["self", "shape"]) (rest := []) (G.fn (l91 _)) (G.code (by kernel_rfl)) (bind2 fun _ _ => by rfl) rfl rfl (by decide) (by rfl) (by decide) ?_
  · exact (b_cons (t_if (t_not (t_val (s_attr sv (G.fx 6)))) (b_cons (t_ret sv)
    b_nil) b_nil)
    (b_cons (t_if (t_cmp c_is (s_attr sv (G.fx 8)) s_none rfl) (b_cons (t_putF (s_call (k := 2) rfl (g_Shape G) (by decide) (k_Shape G) (new_Shape G (h_Shape_init G)) (by decide) (es_cons (s_meth sv es_nil rfl (by decide) (meth_cons (m_ShapeTree_next_number G (h_ShapeTree_next_number G)) meth_nil) G.nf) (es_cons sv (es_cons (s_attr sv (G.fx 2)) es_nil) rfl) rfl) rfl) sv (G.fx 8))
    (b_cons (t_putF s_bool (s_attr sv (G.fx 8)) (G.fx 6))
    b_nil)) b_nil)
    (b_cons (t_ret (s_attr sv (G.fx 8)))
    b_nil)))
theorem h_ShapeTree_built {X : GC} {p : Params} (G : GX X p) : SoundF X 4 98 F_ShapeTree_built := by
  refine f_def (n := 3) (ps := ["self", "rows", "proto", "is_open"]) (rest := ["shape", "key", "flags"]) (G.fn (l98 _)) (G.code (by kernel_rfl)) (bind4 fun _ _ _ _ => by rfl) rfl rfl (by decide) (by rfl) (by decide) ?_
  · exact (b_cons (t_set (s_meth sv (es_cons sv es_nil) rfl (by decide) (meth_cons (m_ShapeTree_root G (h_ShapeTree_root G)) meth_nil) G.nf) rfl (.inl rfl))
    (b_cons (t_for (i_lst sv rfl) (a_tup (as_cons (a_name rfl (.inl rfl)) (as_cons (a_name rfl (.inl rfl)) as_nil rfl) rfl) rfl rfl) (b_cons (t_set (s_meth sv (es_cons sv (es_cons sv (es_cons sv es_nil) rfl) rfl) rfl (by decide) (meth_cons (m_ShapeTree_added G (h_ShapeTree_added G)) meth_nil) G.nf) rfl (.inl rfl))
    b_nil))
    (b_cons (t_ret (s_if (t_val sv) sv (s_meth sv (es_cons sv es_nil) rfl (by decide) (meth_cons (m_ShapeTree_shut G (h_ShapeTree_shut G)) meth_nil) G.nf)))
    b_nil)))
end
section
set_option maxRecDepth 100000
set_option maxHeartbeats 4000000
open PyProof.V PySem.Spec
theorem h_Store_init {X : GC} {p : Params} (G : GX X p) : SoundF X 4 119 F_Store_init := by
  refine f_def (n := 3) (ps := ["self", "tree", "proto"]) (rest := []) (G.fn (l119 _)) (G.code (by kernel_rfl)) (bind3 fun _ _ _ => by rfl) rfl rfl (by decide) (by rfl) (by decide) ?_
  · exact (b_cons (t_putF sv sv (G.fx 13))
    (b_cons (t_putF (s_meth sv es_nil rfl (by decide) (meth_cons (m_ShapeTree_next_number G (h_ShapeTree_next_number G)) meth_nil) G.nf) sv (G.fx 0))
    (b_cons (t_putF (s_meth sv (es_cons sv es_nil) rfl (by decide) (meth_cons (m_ShapeTree_root G (h_ShapeTree_root G)) meth_nil) G.nf) sv (G.fx 14))
    (b_cons (t_putF (s_list es_nil) sv (G.fx 15))
    (b_cons (t_putF s_dict0S sv (G.fx 16))
    (b_cons (t_putF s_bool sv (G.fx 17))
    (b_cons (t_putF s_none sv (G.fx 18))
    (b_cons (t_putF s_bool sv (G.fx 19))
    b_nil))))))))
theorem h_Store_above {X : GC} {p : Params} (G : GX X p) : SoundF X 1 126 F_Store_above := by
  refine f_def (n := 0) (ps := ["self"]) (rest := []) (G.fn (l126 _)) (G.code (by kernel_rfl)) (bind1 fun _ => by rfl) rfl rfl (by decide) (by rfl) (by decide) ?_
  · exact (b_cons (t_ret (s_if (t_val (s_attr sv (G.fx 17))) (s_attr sv (G.fx 18)) (s_attr (s_attr sv (G.fx 14)) (G.fx 2))))
    b_nil)
theorem h_Store_can_grow {X : GC} {p : Params} (G : GX X p) : SoundF X 1 133 F_Store_can_grow := by
  refine f_def (n := 0) (ps := ["self"]) (rest := []) (G.fn (l133 _)) (G.code (by kernel_rfl)) (bind1 fun _ => by rfl) rfl rfl (by decide) (by rfl) (by decide) ?_
  · exact (b_cons (t_ret (s_if (t_val (s_attr sv (G.fx 17))) (s_attr sv (G.fx 19)) (s_attr (s_attr sv (G.fx 14)) (G.fx 6))))
    b_nil)
theorem h_Store_find {X : GC} {p : Params} (G : GX X p) : SoundF X 3 140 F_Store_find := by
  refine f_def (n := 2) (ps := ["self", "key"]) (rest := ["place"]) (G.fn (l140 _)) (G.code (by kernel_rfl)) (bind2 fun _ _ => by rfl) rfl rfl (by decide) (by rfl) (by decide) ?_
  · exact (b_cons (t_if (t_val (s_attr sv (G.fx 17))) (b_cons (t_ret (s_get (s_attr sv (G.fx 16)) sv rfl (fun _ => rfl) rfl))
    b_nil) b_nil)
    (b_cons (t_set (s_meth (s_attr sv (G.fx 14)) (es_cons sv es_nil) rfl (by decide) (meth_cons (m_Shape_place G (h_Shape_place G)) meth_nil) G.nf) rfl (.inl rfl))
    (b_cons (t_ret (s_if (t_cmp c_is sv s_none rfl) s_none (s_tup (es_cons (s_sub sv s_int) (es_cons (s_sub (s_attr sv (G.fx 15)) (s_sub sv s_int)) es_nil) rfl))))
    b_nil)))
theorem h_Store_rows {X : GC} {p : Params} (G : GX X p) : SoundF X 2 145 F_Store_rows := by
  refine f_def (n := 1) (ps := ["self"]) (rest := []) (G.fn (l145 _)) (G.code (by kernel_rfl)) (bind1 fun _ => by rfl) rfl rfl (by decide) (by rfl) (by decide) ?_
  · exact (b_cons (t_if (t_val (s_attr sv (G.fx 17))) (b_cons (t_ret (s_comp (names' := ["self", "key"]) (i_key (s_attr sv (G.fx 16)) rfl) (caps1 rfl (by decide) rfl rfl (by rfl)) rfl (a_name rfl (.inl rfl)) c_nil (s_tup (es_cons sv (es_cons (s_sub (s_sub (s_attr sv (G.fx 16)) sv) s_int) (es_cons (s_sub (s_sub (s_attr sv (G.fx 16)) sv) s_int) es_nil) rfl) rfl)) (clos_of rfl) (by decide) rfl (by decide)))
    b_nil) b_nil)
    (b_cons (t_ret (s_comp (names' := ["self", "slot", "row"]) (i_enum ⟨rfl, g_no_enumerate G, by rfl, by decide, by decide, by rfl⟩ (s_meth (s_attr sv (G.fx 14)) es_nil rfl (by decide) (meth_cons (m_Shape_rows G (h_Shape_rows G)) meth_nil) G.nf) rfl rfl) (caps1 rfl (by decide) rfl rfl (by rfl)) rfl (a_tup (as_cons (a_name rfl (.inl rfl)) (as_cons (a_name rfl (.inl rfl)) as_nil rfl) rfl) rfl rfl) c_nil (s_tup (es_cons (s_sub sv s_int) (es_cons (s_sub sv s_int) (es_cons (s_sub (s_attr sv (G.fx 15)) sv) es_nil) rfl) rfl)) (clos_of rfl) (by decide) rfl (by decide)))
    b_nil))
theorem h_Store_go_alone {X : GC} {p : Params} (G : GX X p) : SoundF X 3 152 F_Store_go_alone := by
  refine f_def (n := 2) (ps := ["self"]) (rest := ["key", "flags", "value"]) (G.fn (l152 _)) (G.code (by kernel_rfl)) (bind1 fun _ => by rfl) rfl rfl (by decide) (by rfl) (by decide) ?_
  · exact (b_cons (t_if (t_not (t_val (s_attr sv (G.fx 17)))) (b_cons (t_for (i_lst (s_meth sv es_nil rfl (by decide) (meth_cons (m_Store_rows G (h_Store_rows G)) meth_nil) G.nf) rfl) (a_tup (as_cons (a_name rfl (.inl rfl)) (as_cons (a_name rfl (.inl rfl)) (as_cons (a_name rfl (.inl rfl)) as_nil rfl) rfl) rfl) rfl rfl) (b_cons (t_putI (s_tup (es_cons sv (es_cons sv es_nil) rfl)) (s_attr sv (G.fx 16)) sv)
    b_nil))
    (b_cons (t_putF (s_attr (s_attr sv (G.fx 14)) (G.fx 2)) sv (G.fx 18))
    (b_cons (t_putF (s_attr (s_attr sv (G.fx 14)) (G.fx 6)) sv (G.fx 19))
    (b_cons (t_putF (s_list es_nil) sv (G.fx 15))
    (b_cons (t_putF s_bool sv (G.fx 17))
    b_nil))))) b_nil)
    b_nil)
theorem h_Store_reflag {X : GC} {p : Params} (G : GX X p) : SoundF X 5 166 F_Store_reflag := by
  refine f_def (n := 4) (ps := ["self", "slot", "flags"]) (rest := ["rows"]) (G.fn (l166 _)) (G.code (by kernel_rfl)) (bind3 fun _ _ _ => by rfl) rfl rfl (by decide) (by rfl) (by decide) ?_
  · exact (b_cons (t_set (s_meth (s_attr sv (G.fx 14)) es_nil rfl (by decide) (meth_cons (m_Shape_rows G (h_Shape_rows G)) meth_nil) G.nf) rfl (.inl rfl))
    (b_cons (t_putI (s_tup (es_cons (s_sub (s_sub sv sv) s_int) (es_cons sv es_nil) rfl)) sv sv)
    (b_cons (t_putF (s_meth (s_attr sv (G.fx 13)) (es_cons sv (es_cons (s_attr (s_attr sv (G.fx 14)) (G.fx 2)) (es_cons (s_attr (s_attr sv (G.fx 14)) (G.fx 6)) es_nil) rfl) rfl) rfl (by decide) (meth_cons (m_ShapeTree_built G (h_ShapeTree_built G)) meth_nil) G.nf) sv (G.fx 14))
    b_nil)))
theorem h_Store_put {X : GC} {p : Params} (G : GX X p) : SoundF X 6 159 F_Store_put := by
  refine f_def (n := 5) (ps := ["self", "key", "flags", "value"]) (rest := ["place"]) (G.fn (l159 _)) (G.code (by kernel_rfl)) (bind4 fun _ _ _ _ => by rfl) rfl rfl (by decide) (by rfl) (by decide) ?_
  · exact (b_cons (t_set (s_if (t_val (s_attr sv (G.fx 17))) s_none (s_meth (s_attr sv (G.fx 14)) (es_cons sv es_nil) rfl (by decide) (meth_cons (m_Shape_place G (h_Shape_place G)) meth_nil) G.nf)) rfl (.inl rfl))
    (b_cons (t_if (t_and (.cons (t_cmp c_is sv s_none rfl) (.cons (t_not (t_val (s_attr sv (G.fx 17)))) (.cons (t_or (.cons (t_cmp c_ge (s_attr (s_attr sv (G.fx 14)) (G.fx 5)) (s_attr (s_attr sv (G.fx 13)) (G.fx 10)) rfl) (.cons (t_not (t_val (s_attr (s_attr sv (G.fx 14)) (G.fx 6)))) .nil))) .nil)))) (b_cons (t_expr (s_meth sv es_nil rfl (by decide) (meth_cons (m_Store_go_alone G (h_Store_go_alone G)) meth_nil) G.nf))
    b_nil) b_nil)
    (b_cons (t_if (t_val (s_attr sv (G.fx 17))) (b_cons (t_putI (s_tup (es_cons sv (es_cons sv es_nil) rfl)) (s_attr sv (G.fx 16)) sv)
    b_nil) (b_cons (t_if (t_cmp c_is sv s_none rfl) (b_cons (t_putF (s_meth (s_attr sv (G.fx 13)) (es_cons (s_attr sv (G.fx 14)) (es_cons sv (es_cons sv es_nil) rfl) rfl) rfl (by decide) (meth_cons (m_ShapeTree_added G (h_ShapeTree_added G)) meth_nil) G.nf) sv (G.fx 14))
    (b_cons (t_expr (s_append (s_attr sv (G.fx 15)) sv rfl (fun _ => rfl) rfl))
    b_nil)) (b_cons (t_putI sv (s_attr sv (G.fx 15)) (s_sub sv s_int))
    (b_cons (t_if (t_cmp c_ne sv (s_sub sv s_int) rfl) (b_cons (t_expr (s_meth sv (es_cons (s_sub sv s_int) (es_cons sv es_nil) rfl) rfl (by decide) (meth_cons (m_Store_reflag G (h_Store_reflag G)) meth_nil) G.nf))
    b_nil) b_nil)
    b_nil)))
    b_nil))
    b_nil)))
theorem h_Store_remove {X : GC} {p : Params} (G : GX X p) : SoundF X 4 173 F_Store_remove := by
  refine f_def (n := 3) (ps := ["self", "key"]) (rest := []) (G.fn (l173 _)) (G.code (by kernel_rfl)) (bind2 fun _ _ => by rfl) rfl rfl (by decide) (by rfl) (by decide) ?_
  · exact (b_cons (t_if (t_val (s_attr sv (G.fx 17))) (b_cons (t_expr (s_popD (s_attr sv (G.fx 16)) sv s_none rfl rfl (fun _ => rfl) rfl))
    b_nil) (b_cons (t_if (t_cmp c_eq (s_attr (s_attr sv (G.fx 14)) (G.fx 3)) sv rfl) (b_cons (t_putF (s_attr (s_attr sv (G.fx 14)) (G.fx 1)) sv (G.fx 14))
    (b_cons (t_expr (s_pop (s_attr sv (G.fx 15)) (fun _ => rfl) rfl))
    b_nil)) (b_cons (t_if (t_cmp c_isNot (s_meth (s_attr sv (G.fx 14)) (es_cons sv es_nil) rfl (by decide) (meth_cons (m_Shape_place G (h_Shape_place G)) meth_nil) G.nf) s_none rfl) (b_cons (t_expr (s_meth sv es_nil rfl (by decide) (meth_cons (m_Store_go_alone G (h_Store_go_alone G)) meth_nil) G.nf))
    (b_cons (t_expr (s_popD (s_attr sv (G.fx 16)) sv s_none rfl rfl (fun _ => rfl) rfl))
    b_nil)) b_nil)
    b_nil))
    b_nil))
    b_nil)
theorem h_Store_close {X : GC} {p : Params} (G : GX X p) : SoundF X 4 180 F_Store_close := by
  refine f_def (n := 3) (ps := ["self"]) (rest := []) (G.fn (l180 _)) (G.code (by kernel_rfl)) (bind1 fun _ => by rfl) rfl rfl (by decide) (by rfl) (by decide) ?_
  · exact (b_cons (t_if (t_val (s_attr sv (G.fx 17))) (b_cons (t_putF s_bool sv (G.fx 19))
    b_nil) (b_cons (t_putF (s_meth (s_attr sv (G.fx 13)) (es_cons (s_attr sv (G.fx 14)) es_nil) rfl (by decide) (meth_cons (m_ShapeTree_shut G (h_ShapeTree_shut G)) meth_nil) G.nf) sv (G.fx 14))
    b_nil))
    b_nil)
theorem h_Store_set_proto {X : GC} {p : Params} (G : GX X p) : SoundF X 5 187 F_Store_set_proto := by
  refine f_def (n := 4) (ps := ["self", "proto"]) (rest := []) (G.fn (l187 _)) (G.code (by kernel_rfl)) (bind2 fun _ _ => by rfl) rfl rfl (by decide) (by rfl) (by decide) ?_
  · exact (b_cons (t_if (t_val (s_attr sv (G.fx 17))) (b_cons (t_putF sv sv (G.fx 18))
    b_nil) (b_cons (t_putF (s_meth (s_attr sv (G.fx 13)) (es_cons (s_meth (s_attr sv (G.fx 14)) es_nil rfl (by decide) (meth_cons (m_Shape_rows G (h_Shape_rows G)) meth_nil) G.nf) (es_cons sv (es_cons (s_attr (s_attr sv (G.fx 14)) (G.fx 6)) es_nil) rfl) rfl) rfl (by decide) (meth_cons (m_ShapeTree_built G (h_ShapeTree_built G)) meth_nil) G.nf) sv (G.fx 14))
    b_nil))
    b_nil)
end
section
set_option maxRecDepth 100000
set_option maxHeartbeats 4000000
open PyProof.V PySem.Spec
theorem h_holder_of {X : GC} {p : Params} (G : GX X p) : SoundF X 4 201 F_holder_of := by
  refine f_def (n := 3) (ps := ["store", "key"]) (rest := ["steps"]) (G.fn (l201 _)) (G.code (by kernel_rfl)) (bind2 fun _ _ => by rfl) rfl rfl (by decide) (by rfl) (by decide) ?_
  · exact (b_cons (t_set s_int rfl (.inl rfl))
    (b_cons (t_while (t_and (.cons (t_cmp c_isNot sv s_none rfl) (.cons (t_cmp c_is (s_meth sv (es_cons sv es_nil) rfl (by decide) (meth_cons (m_Store_find G (h_Store_find G)) meth_nil) G.nf) s_none rfl) .nil))) (b_cons (t_set (s_meth sv es_nil rfl (by decide) (meth_cons (m_Store_above G (h_Store_above G)) meth_nil) G.nf) rfl (.inl rfl))
    (b_cons (t_aug s_int rfl (.inl rfl) (by decide))
    b_nil)))
    (b_cons (t_ret (s_tup (es_cons sv (es_cons sv es_nil) rfl)))
    b_nil)))
theorem h_look {X : GC} {p : Params} (G : GX X p) : SoundF X 5 208 F_look := by
  refine f_def (n := 4) (ps := ["store", "key"]) (rest := ["holder"]) (G.fn (l208 _)) (G.code (by kernel_rfl)) (bind2 fun _ _ => by rfl) rfl rfl (by decide) (by rfl) (by decide) ?_
  · exact (b_cons (t_set (s_sub (s_call (k := 4) rfl (g_holder_of G) (by decide) (k_holder_of G) (h_holder_of G) (by decide) (es_cons sv (es_cons sv es_nil) rfl) rfl) s_int) rfl (.inl rfl))
    (b_cons (t_ret (s_if (t_cmp c_is sv s_none rfl) s_none (s_meth sv (es_cons sv es_nil) rfl (by decide) (meth_cons (m_Store_find G (h_Store_find G)) meth_nil) G.nf)))
    b_nil))
theorem h_may_come {X : GC} {p : Params} (G : GX X p) : SoundF X 6 215 F_may_come := by
  refine f_def (n := 5) (ps := ["store", "key"]) (rest := ["seen"]) (G.fn (l215 _)) (G.code (by kernel_rfl)) (bind2 fun _ _ => by rfl) rfl rfl (by decide) (by rfl) (by decide) ?_
  · exact (b_cons (t_set (s_call (k := 5) rfl (g_look G) (by decide) (k_look G) (h_look G) (by decide) (es_cons sv (es_cons sv es_nil) rfl) rfl) rfl (.inl rfl))
    (b_cons (t_if (t_and (.cons (t_cmp c_isNot sv s_none rfl) (.cons (t_val (s_bin o_and (s_sub sv s_int) (s_glob rfl (g_ACCESSOR G) (by decide)))) .nil))) (b_cons (t_ret (s_glob rfl (g_SETTER G) (by decide)))
    b_nil) b_nil)
    (b_cons (t_if (t_and (.cons (t_cmp c_isNot sv s_none rfl) (.cons (t_not (t_val (s_bin o_and (s_sub sv s_int) (s_glob rfl (g_W G) (by decide))))) .nil))) (b_cons (t_ret (s_glob rfl (g_REFUSED G) (by decide)))
    b_nil) b_nil)
    (b_cons (t_ret (s_if (t_val (s_meth sv es_nil rfl (by decide) (meth_cons (m_Store_can_grow G (h_Store_can_grow G)) meth_nil) G.nf)) (s_glob rfl (g_DONE G) (by decide)) (s_glob rfl (g_REFUSED G) (by decide))))
    b_nil))))
theorem h_write {X : GC} {p : Params} (G : GX X p) : SoundF X 7 222 F_write := by
  refine f_def (n := 6) (ps := ["store", "key", "value"]) (rest := ["own", "outcome"]) (G.fn (l222 _)) (G.code (by kernel_rfl)) (bind3 fun _ _ _ => by rfl) rfl rfl (by decide) (by rfl) (by decide) ?_
  · exact (b_cons (t_set (s_meth sv (es_cons sv es_nil) rfl (by decide) (meth_cons (m_Store_find G (h_Store_find G)) meth_nil) G.nf) rfl (.inl rfl))
    (b_cons (t_if (t_cmp c_is sv s_none rfl) (b_cons (t_set (s_call (k := 6) rfl (g_may_come G) (by decide) (k_may_come G) (h_may_come G) (by decide) (es_cons sv (es_cons sv es_nil) rfl) rfl) rfl (.inl rfl))
    (b_cons (t_if (t_cmp c_eq sv (s_glob rfl (g_DONE G) (by decide)) rfl) (b_cons (t_expr (s_meth sv (es_cons sv (es_cons (s_glob rfl (g_ALL G) (by decide)) (es_cons sv es_nil) rfl) rfl) rfl (by decide) (meth_cons (m_Store_put G (h_Store_put G)) meth_nil) G.nf))
    b_nil) b_nil)
    (b_cons (t_ret (s_tup (es_cons sv (es_cons (s_if (t_cmp c_eq sv (s_glob rfl (g_SETTER G) (by decide)) rfl) (s_sub (s_sub (s_call (k := 5) rfl (g_look G) (by decide) (k_look G) (h_look G) (by decide) (es_cons sv (es_cons sv es_nil) rfl) rfl) s_int) s_int) s_none) es_nil) rfl)))
    b_nil))) b_nil)
    (b_cons (t_if (t_val (s_bin o_and (s_sub sv s_int) (s_glob rfl (g_ACCESSOR G) (by decide)))) (b_cons (t_ret (s_tup (es_cons (s_glob rfl (g_SETTER G) (by decide)) (es_cons (s_sub (s_sub sv s_int) s_int) es_nil) rfl)))
    b_nil) b_nil)
    (b_cons (t_if (t_not (t_val (s_bin o_and (s_sub sv s_int) (s_glob rfl (g_W G) (by decide))))) (b_cons (t_ret (s_tup (es_cons (s_glob rfl (g_REFUSED G) (by decide)) (es_cons s_none es_nil) rfl)))
    b_nil) b_nil)
    (b_cons (t_expr (s_meth sv (es_cons sv (es_cons (s_sub sv s_int) (es_cons sv es_nil) rfl) rfl) rfl (by decide) (meth_cons (m_Store_put G (h_Store_put G)) meth_nil) G.nf))
    (b_cons (t_ret (s_tup (es_cons (s_glob rfl (g_DONE G) (by decide)) (es_cons s_none es_nil) rfl)))
    b_nil))))))
theorem h_Entry_init {X : GC} {p : Params} (G : GX X p) : SoundF X 1 236 F_Entry_init := by
  refine f_def (n := 0) (ps := ["self", "shape", "guards"]) (rest := []) (G.fn (l236 _)) (G.code (by kernel_rfl)) (bind3 fun _ _ _ => by rfl) rfl rfl (by decide) (by rfl) (by decide) ?_
  · exact (b_cons (t_putF sv sv (G.fx 14))
    (b_cons (t_putF sv sv (G.fx 20))
    (b_cons (t_putF s_int sv (G.fx 21))
    (b_cons (t_putF s_none sv (G.fx 22))
    (b_cons (t_putF s_int sv (G.fx 4))
    (b_cons (t_putF s_none sv (G.fx 7))
    b_nil))))))
theorem h_Entry_holds {X : GC} {p : Params} (G : GX X p) : SoundF X 2 243 F_Entry_holds := by
  refine f_def (n := 1) (ps := ["self", "store"]) (rest := ["guard"]) (G.fn (l243 _)) (G.code (by kernel_rfl)) (bind2 fun _ _ => by rfl) rfl rfl (by decide) (by rfl) (by decide) ?_
  · exact (b_cons (t_if (t_or (.cons (t_val (s_attr sv (G.fx 17))) (.cons (t_cmp c_ne (s_attr (s_attr sv (G.fx 14)) (G.fx 0)) (s_attr (s_attr sv (G.fx 14)) (G.fx 0)) rfl) .nil))) (b_cons (t_ret s_bool)
    b_nil) b_nil)
    (b_cons (t_for (i_lst (s_attr sv (G.fx 20)) rfl) (a_name rfl (.inl rfl)) (b_cons (t_set (s_meth sv es_nil rfl (by decide) (meth_cons (m_Store_above G (h_Store_above G)) meth_nil) G.nf) rfl (.inl rfl))
    (b_cons (t_if (t_or (.cons (t_val (s_attr sv (G.fx 17))) (.cons (t_cmp c_ne (s_attr (s_attr sv (G.fx 14)) (G.fx 0)) (s_attr sv (G.fx 0)) rfl) .nil))) (b_cons (t_ret s_bool)
    b_nil) b_nil)
    b_nil)))
    (b_cons (t_ret s_bool)
    b_nil)))
theorem h_Entry_holder {X : GC} {p : Params} (G : GX X p) : SoundF X 2 250 F_Entry_holder := by
  refine f_def (n := 1) (ps := ["self", "store"]) (rest := ["turn"]) (G.fn (l250 _)) (G.code (by kernel_rfl)) (bind2 fun _ _ => by rfl) rfl rfl (by decide) (by rfl) (by decide) ?_
  · exact (b_cons (t_for (i_rng1 ⟨rfl, g_no_range G, by rfl, by decide, by decide, by rfl⟩ (s_attr sv (G.fx 21)) rfl rfl) (a_name rfl (.inl rfl)) (b_cons (t_set (s_meth sv es_nil rfl (by decide) (meth_cons (m_Store_above G (h_Store_above G)) meth_nil) G.nf) rfl (.inl rfl))
    b_nil))
    (b_cons (t_ret sv)
    b_nil))
theorem h_guards_up {X : GC} {p : Params} (G : GX X p) : SoundF X 2 264 F_guards_up := by
  refine f_def (n := 1) (ps := ["store", "steps"]) (rest := ["found", "turn"]) (G.fn (l264 _)) (G.code (by kernel_rfl)) (bind2 fun _ _ => by rfl) rfl rfl (by decide) (by rfl) (by decide) ?_
  · exact (b_cons (t_set (s_list es_nil) rfl (.inl rfl))
    (b_cons (t_for (i_rng1 ⟨rfl, g_no_range G, by rfl, by decide, by decide, by rfl⟩ sv rfl rfl) (a_name rfl (.inl rfl)) (b_cons (t_set (s_meth sv es_nil rfl (by decide) (meth_cons (m_Store_above G (h_Store_above G)) meth_nil) G.nf) rfl (.inl rfl))
    (b_cons (t_if (t_cmp c_is sv s_none rfl) (b_cons (t_ret sv)
    b_nil) b_nil)
    (b_cons (t_if (t_val (s_attr sv (G.fx 17))) (b_cons (t_ret s_none)
    b_nil) b_nil)
    (b_cons (t_expr (s_append sv (s_attr sv (G.fx 14)) rfl (fun _ => rfl) rfl))
    b_nil)))))
    (b_cons (t_ret sv)
    b_nil)))
theorem h_learnt {X : GC} {p : Params} (G : GX X p) : SoundF X 5 271 F_learnt := by
  refine f_def (n := 4) (ps := ["store", "key"]) (rest := ["steps", "holder", "guards", "entry"]) (G.fn (l271 _)) (G.code (by kernel_rfl)) (bind2 fun _ _ => by rfl) rfl rfl (by decide) (by rfl) (by decide) ?_
  · exact (b_cons (t_asg (s_call (k := 4) rfl (g_holder_of G) (by decide) (k_holder_of G) (h_holder_of G) (by decide) (es_cons sv (es_cons sv es_nil) rfl) rfl) (a_tup (as_cons (a_name rfl (.inl rfl)) (as_cons (a_name rfl (.inl rfl)) as_nil rfl) rfl) rfl rfl) (fun _ => rfl) (fun env h => by first | rfl | (unfold swappedStores Env.blockKind Env.kindOf; rw [h]; rfl)))
    (b_cons (t_set (s_if (t_val (s_attr sv (G.fx 17))) s_none (s_call (k := 2) rfl (g_guards_up G) (by decide) (k_guards_up G) (h_guards_up G) (by decide) (es_cons sv (es_cons sv es_nil) rfl) rfl)) rfl (.inl rfl))
    (b_cons (t_if (t_cmp c_is sv s_none rfl) (b_cons (t_ret s_none)
    b_nil) b_nil)
    (b_cons (t_set (s_call (k := 2) rfl (g_Entry G) (by decide) (k_Entry G) (new_Entry G (h_Entry_init G)) (by decide) (es_cons (s_attr sv (G.fx 14)) (es_cons sv es_nil) rfl) rfl) rfl (.inl rfl))
    (b_cons (t_if (t_cmp c_isNot sv s_none rfl) (b_cons (t_putF sv sv (G.fx 21))
    (b_cons (t_asg (s_meth (s_attr sv (G.fx 14)) (es_cons sv es_nil) rfl (by decide) (meth_cons (m_Shape_place G (h_Shape_place G)) meth_nil) G.nf) (a_tup (as_cons (a_fld sv (G.fx 22)) (as_cons (a_fld sv (G.fx 4)) as_nil rfl) rfl) rfl rfl) (fun _ => rfl) (fun env h => by first | rfl | (unfold swappedStores Env.blockKind Env.kindOf; rw [h]; rfl)))
    b_nil)) b_nil)
    (b_cons (t_ret sv)
    b_nil))))))
theorem h_Site_init {X : GC} {p : Params} (G : GX X p) : SoundF X 1 285 F_Site_init := by
  refine f_def (n := 0) (ps := ["self", "key", "limit"]) (rest := []) (G.fn (l285 _)) (G.code (by kernel_rfl)) (bind3 fun _ _ _ => by rfl) rfl rfl (by decide) (by rfl) (by decide) ?_
  · exact (b_cons (t_putF sv sv (G.fx 3))
    (b_cons (t_putF sv sv (G.fx 10))
    (b_cons (t_putF (s_list es_nil) sv (G.fx 23))
    (b_cons (t_putF s_bool sv (G.fx 24))
    (b_cons (t_putF s_int sv (G.fx 25))
    (b_cons (t_putF s_int sv (G.fx 26))
    b_nil))))))
theorem h_Site_entry_for {X : GC} {p : Params} (G : GX X p) : SoundF X 3 292 F_Site_entry_for := by
  refine f_def (n := 2) (ps := ["self", "store"]) (rest := ["entry"]) (G.fn (l292 _)) (G.code (by kernel_rfl)) (bind2 fun _ _ => by rfl) rfl rfl (by decide) (by rfl) (by decide) ?_
  · exact (b_cons (t_for (i_lst (s_attr sv (G.fx 23)) rfl) (a_name rfl (.inl rfl)) (b_cons (t_if (t_val (s_meth sv (es_cons sv es_nil) rfl (by decide) (meth_cons (m_Entry_holds G (h_Entry_holds G)) meth_nil) G.nf)) (b_cons (t_augF s_int sv (G.fx 25))
    (b_cons (t_ret sv)
    b_nil)) b_nil)
    b_nil))
    (b_cons (t_augF s_int sv (G.fx 26))
    (b_cons (t_ret s_none)
    b_nil)))
theorem h_Site_learn {X : GC} {p : Params} (G : GX X p) : SoundF X 1 297 F_Site_learn := by
  refine f_def (n := 0) (ps := ["self", "entry"]) (rest := ["kept"]) (G.fn (l297 _)) (G.code (by kernel_rfl)) (bind2 fun _ _ => by rfl) rfl rfl (by decide) (by rfl) (by decide) ?_
  · exact (b_cons (t_if (t_or (.cons (t_cmp c_is sv s_none rfl) (.cons (t_val (s_attr sv (G.fx 24))) .nil))) (b_cons t_ret0
    b_nil) b_nil)
    (b_cons (t_setC rfl (.inl rfl) (fun env eo => by unfold swapsWith Env.blockKind Env.kindOf; rw [eo.scope]; rfl) (names' := ["entry", "one"]) (i_lst (s_attr sv (G.fx 23)) rfl) (caps1 rfl (by decide) rfl rfl (by rfl)) rfl (a_name rfl (.inl rfl)) (c_one (t_cmp c_ne (s_attr (s_attr sv (G.fx 14)) (G.fx 0)) (s_attr (s_attr sv (G.fx 14)) (G.fx 0)) rfl)) sv (clos_of rfl) (by decide) rfl (by decide))
    (b_cons (t_putF (s_cmp c_ge (s_bi b_len sv rfl rfl (g_no_len G) (by rfl) (by decide) (by decide) (by rfl)) (s_attr sv (G.fx 10)) rfl) sv (G.fx 24))
    (b_cons (t_putF (s_if (t_val (s_attr sv (G.fx 24))) (s_list es_nil) (s_bin o_add sv (s_list (es_cons sv es_nil)))) sv (G.fx 23))
    b_nil))))
theorem h_ReadSite_read {X : GC} {p : Params} (G : GX X p) : SoundF X 6 318 F_ReadSite_read := by
  refine f_def (n := 5) (ps := ["self", "store"]) (rest := ["entry"]) (G.fn (l318 _)) (G.code (by kernel_rfl)) (bind2 fun _ _ => by rfl) rfl rfl (by decide) (by rfl) (by decide) ?_
  · exact (b_cons (t_set (s_meth sv (es_cons sv es_nil) rfl (by decide) (meth_cons (m_ReadSite_entry_for G (h_Site_entry_for G)) meth_nil) G.nf) rfl (.inl rfl))
    (b_cons (t_if (t_cmp c_is sv s_none rfl) (b_cons (t_expr (s_meth sv (es_cons (s_call (k := 5) rfl (g_learnt G) (by decide) (k_learnt G) (h_learnt G) (by decide) (es_cons sv (es_cons (s_attr sv (G.fx 3)) es_nil) rfl) rfl) es_nil) rfl (by decide) (meth_cons (m_ReadSite_learn G (h_Site_learn G)) meth_nil) G.nf))
    (b_cons (t_ret (s_call (k := 5) rfl (g_look G) (by decide) (k_look G) (h_look G) (by decide) (es_cons sv (es_cons (s_attr sv (G.fx 3)) es_nil) rfl) rfl))
    b_nil)) b_nil)
    (b_cons (t_if (t_cmp c_is (s_attr sv (G.fx 22)) s_none rfl) (b_cons (t_ret s_none)
    b_nil) b_nil)
    (b_cons (t_ret (s_tup (es_cons (s_attr sv (G.fx 4)) (es_cons (s_sub (s_attr (s_meth sv (es_cons sv es_nil) rfl (by decide) (meth_cons (m_Entry_holder G (h_Entry_holder G)) meth_nil) G.nf) (G.fx 15)) (s_attr sv (G.fx 22))) es_nil) rfl)))
    b_nil))))
theorem h_WriteSite_write_to {X : GC} {p : Params} (G : GX X p) : SoundF X 8 337 F_WriteSite_write_to := by
  refine f_def (n := 7) (ps := ["self", "store", "value"]) (rest := ["entry", "ahead", "told"]) (G.fn (l337 _)) (G.code (by kernel_rfl)) (bind3 fun _ _ _ => by rfl) rfl rfl (by decide) (by rfl) (by decide) ?_
  · exact (b_cons (t_set (s_meth sv (es_cons sv es_nil) rfl (by decide) (meth_cons (m_WriteSite_entry_for G (h_Site_entry_for G)) meth_nil) G.nf) rfl (.inl rfl))
    (b_cons (t_if (t_cmp c_is sv s_none rfl) (b_cons (t_set (s_call (k := 5) rfl (g_learnt G) (by decide) (k_learnt G) (h_learnt G) (by decide) (es_cons sv (es_cons (s_attr sv (G.fx 3)) es_nil) rfl) rfl) rfl (.inl rfl))
    (b_cons (t_set (s_call (k := 7) rfl (g_write G) (by decide) (k_write G) (h_write G) (by decide) (es_cons sv (es_cons (s_attr sv (G.fx 3)) (es_cons sv es_nil) rfl) rfl) rfl) rfl (.inl rfl))
    (b_cons (t_if (t_and (.cons (t_cmp c_eq (s_sub sv s_int) (s_glob rfl (g_DONE G) (by decide)) rfl) (.cons (t_cmp c_isNot sv s_none rfl) (.cons (t_not (t_val (s_attr sv (G.fx 17)))) .nil)))) (b_cons (t_putF (s_attr sv (G.fx 14)) sv (G.fx 7))
    (b_cons (t_expr (s_meth sv (es_cons sv es_nil) rfl (by decide) (meth_cons (m_WriteSite_learn G (h_Site_learn G)) meth_nil) G.nf))
    b_nil)) b_nil)
    (b_cons (t_ret sv)
    b_nil)))) b_nil)
    (b_cons (t_if (t_cmp c_eq (s_attr (s_attr sv (G.fx 7)) (G.fx 0)) (s_attr (s_attr sv (G.fx 14)) (G.fx 0)) rfl) (b_cons (t_putI sv (s_attr sv (G.fx 15)) (s_attr sv (G.fx 22)))
    b_nil) (b_cons (t_putF (s_attr sv (G.fx 7)) sv (G.fx 14))
    (b_cons (t_expr (s_append (s_attr sv (G.fx 15)) sv rfl (fun _ => rfl) rfl))
    b_nil)))
    (b_cons (t_ret (s_tup (es_cons (s_glob rfl (g_DONE G) (by decide)) (es_cons s_none es_nil) rfl)))
    b_nil))))
end
section
set_option maxRecDepth 100000
set_option maxHeartbeats 4000000
open PyProof.V PySem.Spec
theorem h_law_take {X : GC} {p : Params} (G : GX X p) : SoundF X 1 349 F_law_take := by
  refine f_def (n := 0) (ps := ["box", "limit"]) (rest := []) (G.fn (l349 _)) (G.code (by kernel_rfl)) (bind2 fun _ _ => by rfl) rfl rfl (by decide) (by rfl) (by decide) ?_
  · exact (b_cons (t_if (t_cmp c_gt (s_bi b_len (s_sub sv s_int) rfl rfl (g_no_len G) (by rfl) (by decide) (by decide) (by rfl)) s_int rfl) (b_cons (t_ret (s_bin o_mod (s_pop0 (s_sub sv s_int) s_int rfl (fun _ => rfl) rfl) sv))
    b_nil) b_nil)
    (b_cons (t_putI (s_bin o_mod (s_bin o_add (s_bin o_mul (s_sub sv s_int) s_int) s_int) s_int) sv s_int)
    (b_cons (t_ret (s_bin o_mod (s_bin o_div (s_sub sv s_int) s_int) sv))
    b_nil)))
theorem h_law_own {X : GC} {p : Params} (G : GX X p) : SoundF X 1 354 F_law_own := by
  refine f_def (n := 0) (ps := ["owns", "at", "key"]) (rest := []) (G.fn (l354 _)) (G.code (by kernel_rfl)) (bind3 fun _ _ _ => by rfl) rfl rfl (by decide) (by rfl) (by decide) ?_
  · exact (b_cons (t_ret (s_get (s_bi (b_dict (kd := 4)) (s_comp (names' := ["row"]) (i_lst (s_sub (s_sub sv sv) s_str) rfl) (caps0 (by decide) (by rfl)) rfl (a_name rfl (.inl rfl)) c_nil (s_tup (es_cons (s_sub sv s_int) (es_cons (s_tup (es_cons (s_sub sv s_int) (es_cons (s_sub sv s_int) es_nil) rfl)) es_nil) rfl)) (clos_of rfl) (by decide) rfl (by decide)) rfl rfl (g_no_dict G) (by rfl) (by decide) (by decide) (by rfl)) sv rfl (fun _ => rfl) rfl))
    b_nil)
theorem h_law_seen {X : GC} {p : Params} (G : GX X p) : SoundF X 2 361 F_law_seen := by
  refine f_def (n := 1) (ps := ["owns", "at", "key"]) (rest := ["found"]) (G.fn (l361 _)) (G.code (by kernel_rfl)) (bind3 fun _ _ _ => by rfl) rfl rfl (by decide) (by rfl) (by decide) ?_
  · exact (b_cons (t_while (t_cmp c_isNot sv s_none rfl) (b_cons (t_set (s_call (k := 1) rfl (g_law_own G) (by decide) (k_law_own G) (h_law_own G) (by decide) (es_cons sv (es_cons sv (es_cons sv es_nil) rfl) rfl) rfl) rfl (.inl rfl))
    (b_cons (t_if (t_cmp c_isNot sv s_none rfl) (b_cons (t_ret sv)
    b_nil) b_nil)
    (b_cons (t_set (s_sub (s_sub sv sv) s_str) rfl (.inl rfl))
    b_nil))))
    (b_cons (t_ret s_none)
    b_nil))
theorem h_law_put {X : GC} {p : Params} (G : GX X p) : SoundF X 1 366 F_law_put := by
  refine f_def (n := 0) (ps := ["owns", "at", "key", "flags", "value"]) (rest := ["rows", "spots"]) (G.fn (l366 _)) (G.code (by kernel_rfl)) (bind5 fun _ _ _ _ _ => by rfl) rfl rfl (by decide) (by rfl) (by decide) ?_
  · exact (b_cons (t_set (s_sub (s_sub sv sv) s_str) rfl (.inl rfl))
    (b_cons (t_setC rfl (.inl rfl) (fun env eo => by unfold swapsWith Env.blockKind Env.kindOf; rw [eo.scope]; rfl) (names' := ["key", "spot", "row"]) (i_enum ⟨rfl, g_no_enumerate G, by rfl, by decide, by decide, by rfl⟩ sv rfl rfl) (caps1 rfl (by decide) rfl rfl (by rfl)) rfl (a_tup (as_cons (a_name rfl (.inl rfl)) (as_cons (a_name rfl (.inl rfl)) as_nil rfl) rfl) rfl rfl) (c_one (t_cmp c_eq (s_sub sv s_int) sv rfl)) sv (clos_of rfl) (by decide) rfl (by decide))
    (b_cons (t_if (t_cmp c_eq sv (s_list es_nil) rfl) (b_cons (t_expr (s_append sv (s_tup (es_cons sv (es_cons sv (es_cons sv es_nil) rfl) rfl)) rfl (fun _ => rfl) rfl))
    b_nil) (b_cons (t_putI (s_tup (es_cons sv (es_cons sv (es_cons sv es_nil) rfl) rfl)) sv (s_sub sv s_int))
    b_nil))
    b_nil)))
theorem h_law_written {X : GC} {p : Params} (G : GX X p) : SoundF X 3 373 F_law_written := by
  refine f_def (n := 2) (ps := ["owns", "at", "key", "value"]) (rest := ["mine", "seen"]) (G.fn (l373 _)) (G.code (by kernel_rfl)) (bind4 fun _ _ _ _ => by rfl) rfl rfl (by decide) (by rfl) (by decide) ?_
  · exact (b_cons (t_swap2 (s_tup (es_cons (s_call (k := 1) rfl (g_law_own G) (by decide) (k_law_own G) (h_law_own G) (by decide) (es_cons sv (es_cons sv (es_cons sv es_nil) rfl) rfl) rfl) (es_cons (s_call (k := 2) rfl (g_law_seen G) (by decide) (k_law_seen G) (h_law_seen G) (by decide) (es_cons sv (es_cons sv (es_cons sv es_nil) rfl) rfl) rfl) es_nil) rfl)) rfl rfl rfl rfl (fun _ => rfl) (fun env h => by first | rfl | (unfold swappedStores Env.blockKind Env.kindOf; rw [h]; rfl)))
    (b_cons (t_if (t_and (.cons (t_cmp c_isNot sv s_none rfl) (.cons (t_cmp c_ge (s_sub sv s_int) s_int rfl) .nil))) (b_cons (t_ret (s_tup (es_cons s_int (es_cons (s_sub (s_sub sv s_int) s_int) es_nil) rfl)))
    b_nil) b_nil)
    (b_cons (t_if (t_or (.cons (t_and (.cons (t_cmp c_isNot sv s_none rfl) (.cons (t_cmp c_eq (s_bin o_mod (s_sub sv s_int) s_int) s_int rfl) .nil))) (.cons (t_and (.cons (t_cmp c_is sv s_none rfl) (.cons (t_not (t_val (s_sub (s_sub sv sv) s_str))) .nil))) .nil))) (b_cons (t_ret (s_tup (es_cons s_int (es_cons s_none es_nil) rfl)))
    b_nil) b_nil)
    (b_cons (t_expr (s_call (k := 1) rfl (g_law_put G) (by decide) (k_law_put G) (h_law_put G) (by decide) (es_cons sv (es_cons sv (es_cons sv (es_cons (s_if (t_cmp c_is sv s_none rfl) s_int (s_sub sv s_int)) (es_cons sv es_nil) rfl) rfl) rfl) rfl) rfl))
    (b_cons (t_ret (s_tup (es_cons s_int (es_cons s_none es_nil) rfl)))
    b_nil)))))
theorem h_law_shared {X : GC} {p : Params} (G : GX X p) : SoundF X 2 380 F_law_shared := by
  refine f_def (n := 1) (ps := ["owns", "stores", "at", "key"]) (rest := []) (G.fn (l380 _)) (G.code (by kernel_rfl)) (bind4 fun _ _ _ _ => by rfl) rfl rfl (by decide) (by rfl) (by decide) ?_
  · exact (b_cons (t_while (t_cmp c_isNot sv s_none rfl) (b_cons (t_if (t_val (s_attr (s_sub sv sv) (G.fx 17))) (b_cons (t_ret s_bool)
    b_nil) b_nil)
    (b_cons (t_if (t_cmp c_isNot (s_call (k := 1) rfl (g_law_own G) (by decide) (k_law_own G) (h_law_own G) (by decide) (es_cons sv (es_cons sv (es_cons sv es_nil) rfl) rfl) rfl) s_none rfl) (b_cons (t_ret s_bool)
    b_nil) b_nil)
    (b_cons (t_set (s_sub (s_sub sv sv) s_str) rfl (.inl rfl))
    b_nil))))
    (b_cons (t_ret s_bool)
    b_nil))
theorem h_law_learnt {X : GC} {p : Params} (G : GX X p) : SoundF X 1 385 F_law_learnt := by
  refine f_def (n := 0) (ps := ["note", "number", "limit"]) (rest := ["kept"]) (G.fn (l385 _)) (G.code (by kernel_rfl)) (bind3 fun _ _ _ => by rfl) rfl rfl (by decide) (by rfl) (by decide) ?_
  · exact (b_cons (t_if (t_val (s_sub sv s_str)) (b_cons t_ret0
    b_nil) b_nil)
    (b_cons (t_setC rfl (.inl rfl) (fun env eo => by unfold swapsWith Env.blockKind Env.kindOf; rw [eo.scope]; rfl) (names' := ["number", "one"]) (i_lst (s_sub sv s_str) rfl) (caps1 rfl (by decide) rfl rfl (by rfl)) rfl (a_name rfl (.inl rfl)) (c_one (t_cmp c_ne sv sv rfl)) sv (clos_of rfl) (by decide) rfl (by decide))
    (b_cons (t_putI (s_cmp c_ge (s_bi b_len sv rfl rfl (g_no_len G) (by rfl) (by decide) (by decide) (by rfl)) sv rfl) sv s_str)
    (b_cons (t_putI (s_if (t_val (s_sub sv s_str)) (s_list es_nil) (s_bin o_add sv (s_list (es_cons sv es_nil)))) sv s_str)
    b_nil))))
theorem h_law_keeps {X : GC} {p : Params} (G : GX X p) : SoundF X 1 390 F_law_keeps := by
  refine f_def (n := 0) (ps := ["site", "note"]) (rest := ["told"]) (G.fn (l390 _)) (G.code (by kernel_rfl)) (bind2 fun _ _ => by rfl) rfl rfl (by decide) (by rfl) (by decide) ?_
  · exact (b_cons (t_setC rfl (.inl rfl) (fun env eo => by unfold swapsWith Env.blockKind Env.kindOf; rw [eo.scope]; rfl) (names' := ["entry"]) (i_lst (s_attr sv (G.fx 23)) rfl) (caps0 (by decide) (by rfl)) rfl (a_name rfl (.inl rfl)) c_nil (s_attr (s_attr sv (G.fx 14)) (G.fx 0)) (clos_of rfl) (by decide) rfl (by decide))
    (b_cons (t_ret (s_and (s_cmp c_eq sv (s_sub sv s_str) rfl) (s_one (s_cmp c_eq (s_bi b_repr (s_attr sv (G.fx 24)) rfl rfl (g_no_repr G) (by rfl) (by decide) (by decide) (by rfl)) (s_bi b_repr (s_sub sv s_str) rfl rfl (g_no_repr G) (by rfl) (by decide) (by decide) (by rfl)) rfl))))
    b_nil))
theorem h_law_read_right {X : GC} {p : Params} (G : GX X p) : SoundF X 7 397 F_law_read_right := by
  refine f_def (n := 6) (ps := ["owns", "stores", "at", "site", "note"]) (rest := ["due", "counted", "missed", "is_shared", "hits"]) (G.fn (l397 _)) (G.code (by kernel_rfl)) (bind5 fun _ _ _ _ _ => by rfl) rfl rfl (by decide) (by rfl) (by decide) ?_
  · exact (b_cons (t_swap3 (s_tup (es_cons (s_call (k := 2) rfl (g_law_seen G) (by decide) (k_law_seen G) (h_law_seen G) (by decide) (es_cons sv (es_cons sv (es_cons (s_attr sv (G.fx 3)) es_nil) rfl) rfl) rfl) (es_cons (s_bin o_add (s_attr sv (G.fx 25)) (s_attr sv (G.fx 26))) (es_cons (s_attr sv (G.fx 26)) es_nil) rfl) rfl)) rfl rfl rfl rfl rfl rfl (fun _ => rfl) (fun env h => by first | rfl | (unfold swappedStores Env.blockKind Env.kindOf; rw [h]; rfl)))
    (b_cons (t_set (s_call (k := 2) rfl (g_law_shared G) (by decide) (k_law_shared G) (h_law_shared G) (by decide) (es_cons sv (es_cons sv (es_cons sv (es_cons (s_attr sv (G.fx 3)) es_nil) rfl) rfl) rfl) rfl) rfl (.inl rfl))
    (b_cons (t_if (t_cmp c_ne (s_meth sv (es_cons (s_sub sv sv) es_nil) rfl (by decide) (meth_cons (m_ReadSite_read G (h_ReadSite_read G)) meth_nil) G.nf) sv rfl) (b_cons (t_ret s_bool)
    b_nil) b_nil)
    (b_cons (t_if (t_and (.cons (t_cmp c_gt (s_attr sv (G.fx 26)) sv rfl) (.cons (t_val sv) .nil))) (b_cons (t_expr (s_call (k := 1) rfl (g_law_learnt G) (by decide) (k_law_learnt G) (h_law_learnt G) (by decide) (es_cons sv (es_cons (s_attr (s_attr (s_sub sv sv) (G.fx 14)) (G.fx 0)) (es_cons (s_attr sv (G.fx 10)) es_nil) rfl) rfl) rfl))
    b_nil) b_nil)
    (b_cons (t_set (s_attr sv (G.fx 25)) rfl (.inl rfl))
    (b_cons (t_if (t_or (.cons (t_not (t_val (s_call (k := 1) rfl (g_law_keeps G) (by decide) (k_law_keeps G) (h_law_keeps G) (by decide) (es_cons sv (es_cons sv es_nil) rfl) rfl))) (.cons (t_cmp c_ne (s_meth sv (es_cons (s_sub sv sv) es_nil) rfl (by decide) (meth_cons (m_ReadSite_read G (h_ReadSite_read G)) meth_nil) G.nf) sv rfl) (.cons (t_cmp c_ne (s_bin o_add (s_attr sv (G.fx 25)) (s_attr sv (G.fx 26))) (s_bin o_add sv s_int) rfl) .nil)))) (b_cons (t_ret s_bool)
    b_nil) b_nil)
    (b_cons (t_ret (s_or (s_sub sv s_str) (s_or (s_not sv) (s_one (s_cmp c_eq (s_attr sv (G.fx 25)) (s_bin o_add sv s_int) rfl)))))
    b_nil)))))))
theorem h_law_write_right {X : GC} {p : Params} (G : GX X p) : SoundF X 9 404 F_law_write_right := by
  refine f_def (n := 8) (ps := ["owns", "stores", "at", "site", "note", "value"]) (rest := ["store", "key", "counted", "missed", "is_own", "is_shared", "number", "due", "hits"]) (G.fn (l404 _)) (G.code (by kernel_rfl)) (bind6 fun _ _ _ _ _ _ => by rfl) rfl rfl (by decide) (by rfl) (by decide) ?_
  · exact (b_cons (t_asg (s_tup (es_cons (s_sub sv sv) (es_cons (s_attr sv (G.fx 3)) (es_cons (s_bin o_add (s_attr sv (G.fx 25)) (s_attr sv (G.fx 26))) (es_cons (s_attr sv (G.fx 26)) es_nil) rfl) rfl) rfl)) (a_tup (as_cons (a_name rfl (.inl rfl)) (as_cons (a_name rfl (.inl rfl)) (as_cons (a_name rfl (.inl rfl)) (as_cons (a_name rfl (.inl rfl)) as_nil rfl) rfl) rfl) rfl) rfl rfl) (fun _ => rfl) (fun env h => by first | rfl | (unfold swappedStores Env.blockKind Env.kindOf; rw [h]; rfl)))
    (b_cons (t_swap2 (s_tup (es_cons (s_cmp c_isNot (s_call (k := 1) rfl (g_law_own G) (by decide) (k_law_own G) (h_law_own G) (by decide) (es_cons sv (es_cons sv (es_cons sv es_nil) rfl) rfl) rfl) s_none rfl) (es_cons (s_call (k := 2) rfl (g_law_shared G) (by decide) (k_law_shared G) (h_law_shared G) (by decide) (es_cons sv (es_cons sv (es_cons sv (es_cons sv es_nil) rfl) rfl) rfl) rfl) es_nil) rfl)) rfl rfl rfl rfl (fun _ => rfl) (fun env h => by first | rfl | (unfold swappedStores Env.blockKind Env.kindOf; rw [h]; rfl)))
    (b_cons (t_set (s_if (t_val (s_attr sv (G.fx 17))) s_int (s_attr (s_attr sv (G.fx 14)) (G.fx 0))) rfl (.inl rfl))
    (b_cons (t_set (s_call (k := 3) rfl (g_law_written G) (by decide) (k_law_written G) (h_law_written G) (by decide) (es_cons sv (es_cons sv (es_cons sv (es_cons sv es_nil) rfl) rfl) rfl) rfl) rfl (.inl rfl))
    (b_cons (t_if (t_or (.cons (t_cmp c_ne (s_meth sv (es_cons sv (es_cons sv es_nil) rfl) rfl (by decide) (meth_cons (m_WriteSite_write_to G (h_WriteSite_write_to G)) meth_nil) G.nf) sv rfl) (.cons (t_cmp c_ne (s_bin o_add (s_attr sv (G.fx 25)) (s_attr sv (G.fx 26))) (s_bin o_add sv s_int) rfl) .nil))) (b_cons (t_ret s_bool)
    b_nil) b_nil)
    (b_cons (t_if (t_and (.cons (t_cmp c_gt (s_attr sv (G.fx 26)) sv rfl) (.cons (t_val sv) (.cons (t_cmp c_eq (s_sub sv s_int) s_int rfl) (.cons (t_not (t_val (s_attr sv (G.fx 17)))) .nil))))) (b_cons (t_expr (s_call (k := 1) rfl (g_law_learnt G) (by decide) (k_law_learnt G) (h_law_learnt G) (by decide) (es_cons sv (es_cons sv (es_cons (s_attr sv (G.fx 10)) es_nil) rfl) rfl) rfl))
    b_nil) b_nil)
    (b_cons (t_if (t_not (t_val (s_call (k := 1) rfl (g_law_keeps G) (by decide) (k_law_keeps G) (h_law_keeps G) (by decide) (es_cons sv (es_cons sv es_nil) rfl) rfl))) (b_cons (t_ret s_bool)
    b_nil) b_nil)
    (b_cons (t_if (t_or (.cons (t_not (t_val sv)) (.cons (t_cmp c_ne (s_sub sv s_int) s_int rfl) (.cons (t_val (s_attr sv (G.fx 17))) (.cons (t_val (s_sub sv s_str)) .nil))))) (b_cons (t_ret s_bool)
    b_nil) b_nil)
    (b_cons (t_set (s_attr sv (G.fx 25)) rfl (.inl rfl))
    (b_cons (t_expr (s_call (k := 3) rfl (g_law_written G) (by decide) (k_law_written G) (h_law_written G) (by decide) (es_cons sv (es_cons sv (es_cons sv (es_cons (s_bin o_add sv s_int) es_nil) rfl) rfl) rfl) rfl))
    (b_cons (t_ret (s_and (s_cmp c_eq (s_meth sv (es_cons sv (es_cons (s_bin o_add sv s_int) es_nil) rfl) rfl (by decide) (meth_cons (m_WriteSite_write_to G (h_WriteSite_write_to G)) meth_nil) G.nf) (s_tup (es_cons s_int (es_cons s_none es_nil) rfl)) rfl) (s_one (s_cmp c_eq (s_attr sv (G.fx 25)) (s_bin o_add sv s_int) rfl))))
    b_nil)))))))))))
theorem h_law_change {X : GC} {p : Params} (G : GX X p) : SoundF X 7 409 F_law_change := by
  refine f_def (n := 6) (ps := ["box", "owns", "stores", "at", "key"]) (rest := ["form", "store", "own", "flags", "value"]) (G.fn (l409 _)) (G.code (by kernel_rfl)) (bind5 fun _ _ _ _ _ => by rfl) rfl rfl (by decide) (by rfl) (by decide) ?_
  · exact (b_cons (t_swap3 (s_tup (es_cons (s_call (k := 1) rfl (g_law_take G) (by decide) (k_law_take G) (h_law_take G) (by decide) (es_cons sv (es_cons s_int es_nil) rfl) rfl) (es_cons (s_sub sv sv) (es_cons (s_sub sv sv) es_nil) rfl) rfl)) rfl rfl rfl rfl rfl rfl (fun _ => rfl) (fun env h => by first | rfl | (unfold swappedStores Env.blockKind Env.kindOf; rw [h]; rfl)))
    (b_cons (t_swap2 (s_tup (es_cons (s_call (k := 1) rfl (g_law_take G) (by decide) (k_law_take G) (h_law_take G) (by decide) (es_cons sv (es_cons s_int es_nil) rfl) rfl) (es_cons (s_call (k := 1) rfl (g_law_take G) (by decide) (k_law_take G) (h_law_take G) (by decide) (es_cons sv (es_cons s_int es_nil) rfl) rfl) es_nil) rfl)) rfl rfl rfl rfl (fun _ => rfl) (fun env h => by first | rfl | (unfold swappedStores Env.blockKind Env.kindOf; rw [h]; rfl)))
    (b_cons (t_if (t_cmp c_lt sv s_int rfl) (b_cons (t_if (t_cmp c_eq sv s_int rfl) (b_cons (t_swap2 (s_tup (es_cons (s_bin o_add (s_bin o_mul (s_bin o_div sv s_int) s_int) s_int) (es_cons (s_tup (es_cons (s_bin o_add s_str (s_bi b_str sv rfl rfl (g_no_str G) (by rfl) (by decide) (by decide) (by rfl))) (es_cons (s_bin o_add s_str (s_bi b_str sv rfl rfl (g_no_str G) (by rfl) (by decide) (by decide) (by rfl))) es_nil) rfl)) es_nil) rfl)) rfl rfl rfl rfl (fun _ => rfl) (fun env h => by first | rfl | (unfold swappedStores Env.blockKind Env.kindOf; rw [h]; rfl)))
    b_nil) b_nil)
    (b_cons (t_expr (s_meth sv (es_cons sv (es_cons sv (es_cons sv es_nil) rfl) rfl) rfl (by decide) (meth_cons (m_Store_put G (h_Store_put G)) meth_nil) G.nf))
    (b_cons (t_expr (s_call (k := 1) rfl (g_law_put G) (by decide) (k_law_put G) (h_law_put G) (by decide) (es_cons sv (es_cons sv (es_cons sv (es_cons sv (es_cons sv es_nil) rfl) rfl) rfl) rfl) rfl))
    b_nil))) (b_cons (t_if (t_cmp c_lt sv s_int rfl) (b_cons (t_expr (s_meth sv (es_cons sv es_nil) rfl (by decide) (meth_cons (m_Store_remove G (h_Store_remove G)) meth_nil) G.nf))
    (b_cons (t_putI (s_comp (names' := ["key", "row"]) (i_lst (s_sub sv s_str) rfl) (caps1 rfl (by decide) rfl rfl (by rfl)) rfl (a_name rfl (.inl rfl)) (c_one (t_cmp c_ne (s_sub sv s_int) sv rfl)) sv (clos_of rfl) (by decide) rfl (by decide)) sv s_str)
    b_nil)) (b_cons (t_if (t_and (.cons (t_cmp c_eq sv s_int rfl) (.cons (t_cmp c_eq sv s_int rfl) .nil))) (b_cons (t_expr (s_meth sv es_nil rfl (by decide) (meth_cons (m_Store_close G (h_Store_close G)) meth_nil) G.nf))
    (b_cons (t_putI s_bool sv s_str)
    b_nil)) (b_cons (t_if (t_and (.cons (t_cmp c_eq sv s_int rfl) (.cons (t_cmp c_eq sv s_int rfl) .nil))) (b_cons (t_expr (s_meth sv es_nil rfl (by decide) (meth_cons (m_Store_go_alone G (h_Store_go_alone G)) meth_nil) G.nf))
    b_nil) (b_cons (t_if (t_cmp c_gt sv s_int rfl) (b_cons (t_putI (s_sub (s_list (es_cons s_none (es_cons (s_bin o_sub sv s_int) es_nil) rfl)) (s_bin o_mod sv s_int)) sv s_str)
    (b_cons (t_expr (s_meth sv (es_cons (s_if (t_cmp c_is (s_sub sv s_str) s_none rfl) s_none (s_sub sv (s_bin o_sub sv s_int))) es_nil) rfl (by decide) (meth_cons (m_Store_set_proto G (h_Store_set_proto G)) meth_nil) G.nf))
    b_nil)) b_nil)
    b_nil))
    b_nil))
    b_nil))
    b_nil))
    b_nil)))
theorem h_law_all_right {X : GC} {p : Params} (G : GX X p) : SoundF X 3 416 F_law_all_right := by
  refine f_def (n := 2) (ps := ["owns", "stores"]) (rest := ["own", "store"]) (G.fn (l416 _)) (G.code (by kernel_rfl)) (bind2 fun _ _ => by rfl) rfl rfl (by decide) (by rfl) (by decide) ?_
  · exact (b_cons (t_for (i_zip ⟨rfl, g_no_zip G, by rfl, by decide, by decide, by rfl⟩ sv sv rfl rfl rfl) (a_tup (as_cons (a_name rfl (.inl rfl)) (as_cons (a_name rfl (.inl rfl)) as_nil rfl) rfl) rfl rfl) (b_cons (t_if (t_or (.cons (t_cmp c_ne (s_meth sv es_nil rfl (by decide) (meth_cons (m_Store_rows G (h_Store_rows G)) meth_nil) G.nf) (s_sub sv s_str) rfl) (.cons (t_cmp c_ne (s_bi b_repr (s_meth sv es_nil rfl (by decide) (meth_cons (m_Store_can_grow G (h_Store_can_grow G)) meth_nil) G.nf) rfl rfl (g_no_repr G) (by rfl) (by decide) (by decide) (by rfl)) (s_bi b_repr (s_sub sv s_str) rfl rfl (g_no_repr G) (by rfl) (by decide) (by decide) (by rfl)) rfl) .nil))) (b_cons (t_ret s_bool)
    b_nil) b_nil)
    b_nil))
    (b_cons (t_ret s_bool)
    b_nil))
end
section
set_option maxRecDepth 100000
set_option maxHeartbeats 2000000
open PyProof.V PySem.Spec
theorem t_swap2g {X : GC} {n : Nat} {sc : Scope} {names : List Str} {pos : Pos} {es : List Expr} {k k' : Nat} {tp tp' : Pos} {A B : Expr} {tA tB : E1} {i j : Nat} {x y : Str} {S : Stmt} (hS : Stmt.Assign [.Tuple es k tp] (.Tuple [A, B] k' tp') pos = S) (nA : notStar A = true) (nB : notStar B = true) (hA : SoundE X n sc names A tA) (hB : SoundE X n sc names B tB) (hx : names[i]? = some x) (hy : names[j]? = some y) (kx : sc.names.lookup x = some .local) (ky : sc.names.lookup y = some .local)
    (hs : ∀ env, swapsWithSole [.Tuple es k tp] (.Tuple [A, B] k' tp') pos.line env = pure false) (hw : ∀ env, env.scope = sc → swappedStores [.Tuple es k tp] (.Tuple [A, B] k' tp') env = pure (some [x, y])) : SoundS X n sc names S (sSwap2 (pTup (eCons tA (eCons tB eNil))) i j) := by
  subst hS
  exact t_swap2 (s_tup (es_cons hA (es_cons hB es_nil nB) nA)) hx hy kx ky hs hw
noncomputable def bodyOf : Option Obj → Option (Scope × List Stmt)
  | some ⟨_, _, .func f, _⟩ => match f.body with | .stmts b => some (f.scope, b) | .expr _ => none
  | _ => none
theorem body_inj {ho1 : Option Obj} {oc oc' : Value} {od od' : Option Addr} {osl osl' : Array (Option Value)} {name name' qual qual' : Str} {params params' : Arguments} {body body' : List Stmt} {scope scope' : Scope} {dV kV doc pm cdv ct dV' kV' doc' pm' cdv' ct' : Value} {an an' : Option Addr}
    (h : ho1 = some ⟨oc, od, .func (fnOf name qual params body scope dV kV doc pm an cdv ct), osl⟩) (h' : ho1 = some ⟨oc', od', .func (fnOf name' qual' params' body' scope' dV' kV' doc' pm' an' cdv' ct'), osl'⟩) : scope = scope' ∧ body = body' := by
  have e : some (scope, body) = some (scope', body') := by
    have := congrArg bodyOf (h.symm.trans h')
    exact this
  cases e
  exact ⟨rfl, rfl⟩
noncomputable def LawB (X : GC) (p : Params) (names : List Str) (t : S1) : Prop := ∀ {oc : Value} {od : Option Addr} {osl : Array (Option Value)} {name qual : Str} {params : Arguments} {body : List Stmt} {scope : Scope} {dV kV doc pm cdv ct : Value} {an : Option Addr}, (hFr p).lookup 421 = some ⟨oc, od, .func (fnOf name qual params body scope dV kV doc pm an cdv ct), osl⟩ → SoundB X 9 scope names body t
theorem lawB_of {X : GC} {p : Params} {names : List Str} {t : S1} {oc : Value} {od : Option Addr} {osl : Array (Option Value)} {name qual : Str} {params : Arguments} {body : List Stmt} {scope : Scope} {dV kV doc pm cdv ct : Value} {an : Option Addr} (h : (hFr p).lookup 421 = some ⟨oc, od, .func (fnOf name qual params body scope dV kV doc pm an cdv ct), osl⟩) (hB : SoundB X 9 scope names body t) : LawB X p names t := fun h' => by
  obtain ⟨rfl, rfl⟩ := body_inj h h'
  exact hB
theorem h_lawB {X : GC} {p : Params} (G : GX X p) {la : Addr} {vs : List Value} {ns : List Int} (hL : X.hB.IsList la vs.toArray) (hI : IntsAre vs ns) (hz : vs.length ≤ 1000) : LawB X p ["script", "box", "one", "many", "limit", "tree", "owns", "stores", "at", "above", "readers", "writers", "notes", "turn", "spot", "form"] (B_law la ns) := by
  refine lawB_of (l421 _) ?_
  refine b_cons ?_ ?_
  · refine t_set ?_ rfl (.inl rfl) (fun _ => rfl)
    refine s_list ?_
    refine es_cons ?_ (es_cons s_int es_nil) rfl
    refine s_comp (names' := ["one"]) ?_ (caps0 (by decide) (by rfl)) rfl (a_name rfl (.inl rfl)) c_nil ?_ (clos_of rfl) (by decide) rfl (by decide) (fun _ _ => rfl)
    · refine i_lst ?_ rfl
      refine s_slice (y := 48) hL hI hz sv (fun _ _ => rfl)
    · refine s_bi b_int sv rfl rfl (g_no_int G) (by rfl) (by decide) (by decide) (by rfl)
  refine b_cons ?_ ?_
  · exact (t_for (i_lst (s_slice (y := 48) hL hI hz sv) rfl) (a_name rfl (.inl rfl)) (b_cons (t_putI (s_bin o_mod (s_bin o_add (s_bin o_mul (s_sub sv s_int) s_int) sv) s_int) sv s_int)
      b_nil))
  refine b_cons ?_ ?_
  · exact (t_asg (s_tup (es_cons (s_bin o_add s_int (s_call (k := 1) rfl (g_law_take G) (by decide) (k_law_take G) (h_law_take G) (by decide) (es_cons sv (es_cons s_int es_nil) rfl) rfl)) (es_cons (s_bin o_add s_int (s_call (k := 1) rfl (g_law_take G) (by decide) (k_law_take G) (h_law_take G) (by decide) (es_cons sv (es_cons s_int es_nil) rfl) rfl)) (es_cons (s_call (k := 2) rfl (g_ShapeTree G) (by decide) (k_ShapeTree G) (new_ShapeTree G (h_ShapeTree_init G)) (by decide) (es_cons s_int es_nil) rfl) es_nil) rfl) rfl)) (a_tup (as_cons (a_name rfl (.inl rfl)) (as_cons (a_name rfl (.inr rfl)) (as_cons (a_name rfl (.inl rfl)) as_nil rfl) rfl) rfl) rfl rfl) (fun _ => rfl) (fun env h => by first | rfl | (unfold swappedStores Env.blockKind Env.kindOf; rw [h]; rfl)))
  refine b_cons ?_ ?_
  · generalize hS : Stmt.Assign _ _ _ = S
    refine t_swap2g hS rfl rfl ?_ ?_ rfl rfl rfl rfl (fun _ => rfl) (fun env h => by first | rfl | (unfold swappedStores Env.blockKind Env.kindOf; rw [h]; rfl))
    · generalize hD : Expr.Dict _ _ _ = D
      refine s_list (es_cons ?_ es_nil (by subst hD; rfl))
      subst hD
      generalize hV : Expr.List [] _ = V
      exact (s_dictS (vs_cons (by subst hV; exact s_list es_nil) (vs_cons s_none (vs_cons s_bool vs_nil))) rfl rfl (by simp) (by simp) (by decide) (by simp))
    · exact s_list (es_cons (s_call (k := 5) rfl (g_Store G) (by decide) (k_Store G) (new_Store G (h_Store_init G)) (by decide) (es_cons sv (es_cons s_none es_nil) rfl) rfl) es_nil)
  refine b_cons ?_ ?_
  · exact (t_for (i_rng2 ⟨rfl, g_no_range G, by rfl, by decide, by decide, by rfl⟩ s_int sv rfl rfl rfl) (a_name rfl (.inl rfl)) (b_cons (t_set (s_if (t_cmp c_gt (s_call (k := 1) rfl (g_law_take G) (by decide) (k_law_take G) (h_law_take G) (by decide) (es_cons sv (es_cons s_int es_nil) rfl) rfl) s_int rfl) (s_bin o_sub sv s_int) s_none) rfl (.inl rfl))
      (b_cons (t_expr (s_append sv (s_dictS (vs_cons (s_list es_nil) (vs_cons sv (vs_cons s_bool vs_nil))) rfl rfl (by simp) (by simp) (by decide) (by simp)) rfl (fun _ => rfl) rfl))
      (b_cons (t_expr (s_append sv (s_call (k := 5) rfl (g_Store G) (by decide) (k_Store G) (new_Store G (h_Store_init G)) (by decide) (es_cons sv (es_cons (s_if (t_cmp c_is sv s_none rfl) s_none (s_sub sv sv)) es_nil) rfl) rfl) rfl (fun _ => rfl) rfl))
      b_nil))))
  refine b_cons ?_ ?_
  · exact (t_setC rfl (.inl rfl) (fun env eo => by unfold swapsWith Env.blockKind Env.kindOf; rw [eo.scope]; rfl) (names' := ["limit", "key"]) (i_tup (s_tup (es_cons s_str (es_cons s_str (es_cons s_str es_nil) rfl) rfl)) rfl) (caps1 rfl (by decide) rfl rfl (by rfl)) rfl (a_name rfl (.inl rfl)) c_nil (s_call (k := 2) rfl (g_ReadSite G) (by decide) (k_ReadSite G) (new_ReadSite G (h_Site_init G)) (by decide) (es_cons sv (es_cons sv es_nil) rfl) rfl) (clos_of rfl) (by decide) rfl (by decide))
  refine b_cons ?_ ?_
  · exact (t_setC rfl (.inl rfl) (fun env eo => by unfold swapsWith Env.blockKind Env.kindOf; rw [eo.scope]; rfl) (names' := ["limit", "key"]) (i_tup (s_tup (es_cons s_str (es_cons s_str (es_cons s_str es_nil) rfl) rfl)) rfl) (caps1 rfl (by decide) rfl rfl (by rfl)) rfl (a_name rfl (.inl rfl)) c_nil (s_call (k := 2) rfl (g_WriteSite G) (by decide) (k_WriteSite G) (new_WriteSite G (h_Site_init G)) (by decide) (es_cons sv (es_cons sv es_nil) rfl) rfl) (clos_of rfl) (by decide) rfl (by decide))
  refine b_cons ?_ ?_
  · exact (t_setC rfl (.inl rfl) (fun env eo => by unfold swapsWith Env.blockKind Env.kindOf; rw [eo.scope]; rfl) (names' := ["turn"]) (i_rng1 ⟨rfl, g_no_range G, by rfl, by decide, by decide, by rfl⟩ s_int rfl rfl) (caps0 (by decide) (by rfl)) rfl (a_name rfl (.inl rfl)) c_nil (s_dictS (vs_cons (s_list es_nil) (vs_cons s_bool vs_nil)) rfl rfl (by simp) (by simp) (by decide) (by simp)) (clos_of rfl) (by decide) rfl (by decide))
  refine b_cons ?_ ?_
  · exact (t_for (i_rng1 ⟨rfl, g_no_range G, by rfl, by decide, by decide, by rfl⟩ (s_bin o_add s_int (s_call (k := 1) rfl (g_law_take G) (by decide) (k_law_take G) (h_law_take G) (by decide) (es_cons sv (es_cons s_int es_nil) rfl) rfl)) rfl rfl) (a_name rfl (.inl rfl)) (b_cons (t_swap3 (s_tup (es_cons (s_call (k := 1) rfl (g_law_take G) (by decide) (k_law_take G) (h_law_take G) (by decide) (es_cons sv (es_cons sv es_nil) rfl) rfl) (es_cons (s_call (k := 1) rfl (g_law_take G) (by decide) (k_law_take G) (h_law_take G) (by decide) (es_cons sv (es_cons s_int es_nil) rfl) rfl) (es_cons (s_call (k := 1) rfl (g_law_take G) (by decide) (k_law_take G) (h_law_take G) (by decide) (es_cons sv (es_cons s_int es_nil) rfl) rfl) es_nil) rfl) rfl)) rfl rfl rfl rfl rfl rfl (fun _ => rfl) (fun env h => by first | rfl | (unfold swappedStores Env.blockKind Env.kindOf; rw [h]; rfl)))
      (b_cons (t_if (t_and (.cons (t_cmp c_lt sv s_int rfl) (.cons (t_not (t_val (s_call (k := 7) rfl (g_law_read_right G) (by decide) (k_law_read_right G) (h_law_read_right G) (by decide) (es_cons sv (es_cons sv (es_cons sv (es_cons (s_sub sv sv) (es_cons (s_sub sv sv) es_nil) rfl) rfl) rfl) rfl) rfl))) .nil))) (b_cons (t_ret s_bool)
      b_nil) b_nil)
      (b_cons (t_if (t_and (.cons (t_cmp2 c_le c_lt s_int sv s_int rfl) (.cons (t_not (t_val (s_call (k := 9) rfl (g_law_write_right G) (by decide) (k_law_write_right G) (h_law_write_right G) (by decide) (es_cons sv (es_cons sv (es_cons sv (es_cons (s_sub sv sv) (es_cons (s_sub sv (s_bin o_add s_int sv)) (es_cons (s_call (k := 1) rfl (g_law_take G) (by decide) (k_law_take G) (h_law_take G) (by decide) (es_cons sv (es_cons s_int es_nil) rfl) rfl) es_nil) rfl) rfl) rfl) rfl) rfl) rfl))) .nil))) (b_cons (t_ret s_bool)
      b_nil) b_nil)
      (b_cons (t_if (t_cmp c_ge sv s_int rfl) (b_cons (t_expr (s_call (k := 7) rfl (g_law_change G) (by decide) (k_law_change G) (h_law_change G) (by decide) (es_cons sv (es_cons sv (es_cons sv (es_cons sv (es_cons (s_sub (s_tup (es_cons s_str (es_cons s_str (es_cons s_str es_nil) rfl) rfl)) sv) es_nil) rfl) rfl) rfl) rfl) rfl))
      b_nil) b_nil)
      (b_cons (t_if (t_not (t_val (s_call (k := 3) rfl (g_law_all_right G) (by decide) (k_law_all_right G) (h_law_all_right G) (by decide) (es_cons sv (es_cons sv es_nil) rfl) rfl))) (b_cons (t_ret s_bool)
      b_nil) b_nil)
      b_nil))))))
  refine b_cons ?_ ?_
  · exact (t_ret s_bool)
  exact b_nil
end
section
set_option maxRecDepth 100000
set_option maxHeartbeats 8000000
open PyProof.V PySem.Spec
theorem finish {X : GC} {n : Nat} {sc : Scope} {names : List Str} {body : List Stmt} {t : S1} (hB : SoundB X n sc names body t) {env : Env} {A : Around} {κ : Km} {P : Addr → Obj → Prop} {ls : Ls} {σ : H} {s : Shared} {R : Flow → Shared → Prop} {E : Value → Shared → Prop}
    (eo : EnvOk env sc) (rm : Rm n A) (S : St X κ P env names ls σ s) (ht : t ls σ (fun fl _ _ => fl = .ret (.bool true))) (k : ∀ s' m, s'.heap.Ns env.locals m → (∀ a o, X.hB.get? a = some o → s'.heap.get? a = some o) → s'.os = X.os → s'.gens = #[] → R (.ret (.bool true)) s') : wpAny X.M A (execs body env) R E s :=
  wpAny_mono (hB env A κ P ls σ s _ eo rm S ht) (fun u s' ⟨κ', σ', ls', f, g, S', fr, q⟩ => by
    subst q
    obtain ⟨v, rfl, rv⟩ := fr
    obtain ⟨m, hm, -⟩ := S'.f.loc
    obtain rfl : v = .bool true := rv
    exact k s' m hm S'.w.base S'.w.os S'.w.gens) fun _ _ e => e.elim
noncomputable def H0 (n : Nat) : H := ⟨fun _ _ _ => none, fun _ _ => [], fun _ _ => ([], 0), fun _ _ => [], fun _ _ => [], n⟩
noncomputable def hClsOk (K : Frag) (a : Addr) : Bool := hasDictIn K a && (plainGet K a fnames[0] && (findIn K (.ref a) "__setattr__" == some (some (.builtin "object.__setattr__")) && (plainOver K a && (makesIn K a && fnames.all fun x => findIn K (.ref a) x == some none))))
theorem hclsOk (p : Params) : (List.range 6).all (fun c => hClsOk (hFr p) (clsTab c)) = true := by kernel_rfl
theorem hcls (p : Params) {c : Nat} (hc : c < 6) : hasDictIn (hFr p) (clsTab c) = true ∧ plainGet (hFr p) (clsTab c) fnames[0] = true ∧ findIn (hFr p) (.ref (clsTab c)) "__setattr__" = some (some (.builtin "object.__setattr__")) ∧ plainOver (hFr p) (clsTab c) = true ∧ makesIn (hFr p) (clsTab c) = true ∧ ∀ x ∈ fnames, findIn (hFr p) (.ref (clsTab c)) x = some none := by
  have h := List.all_eq_true.mp (hclsOk p) c (List.mem_range.mpr hc)
  obtain ⟨h1, h⟩ := Bool.and_eq_true_iff.mp h
  obtain ⟨h2, h⟩ := Bool.and_eq_true_iff.mp h
  obtain ⟨h3, h⟩ := Bool.and_eq_true_iff.mp h
  obtain ⟨h4, h⟩ := Bool.and_eq_true_iff.mp h
  obtain ⟨h5, h6⟩ := Bool.and_eq_true_iff.mp h
  exact ⟨h1, h2, beq_iff_eq.mp h3, h4, h5, fun x hx => beq_iff_eq.mp (List.all_eq_true.mp h6 x hx)⟩
noncomputable def mkGC (p : Params) (prog : Program) (w : World) (h : Heap) (os : OsState) (mg mb : Str → Option Value) (KX : (hFr p).In h) (lim : h.NoLimit) (ng : h.Ns mainGlobals mg) (nb : h.Ns builtinsNs mb) (mbI : ∀ x, x ≠ ("__name__" : Str) → mb x = bootBuiltins x) : GC where
  prog := prog
  w := w
  K := hFr p
  hB := h
  os := os
  clsA := clsTab
  ncls := 6
  fname := fnames
  mg := mg
  mb := mb
  KX := KX
  lim := lim
  ng := ng
  nb := nb
  mbI := mbI
  cls := fun c hc => by
    obtain ⟨h1, h2, h3, h4, -, -⟩ := hcls p hc
    obtain ⟨cd, e, h⟩ := any_some h1
    exact ⟨cd, e, h, (plainGet_of (name := fnames[0]) h2).1, h3, h4⟩
  clsG := fun c hc => (plainGet_of (name := fnames[0]) (hcls p hc).2.1).2
  clsM := fun c hc => (hcls p hc).2.2.2.2.1
  fno := fun c hc => (hcls p hc).2.2.2.2.2
  fnd := by decide +kernel
  fsz := by decide
  sys := Nat.lt_of_le_of_lt (by decide) (Heap.lt_size (KX 421 _ (l421 p)))
end
section
open PyProof.V PySem.Spec
noncomputable abbrev lawNames : List Str := [(Str.ofString "script"), (Str.ofString "box"), (Str.ofString "one"), (Str.ofString "many"), (Str.ofString "limit"), (Str.ofString "tree"), (Str.ofString "owns"), (Str.ofString "stores"), (Str.ofString "at"), (Str.ofString "above"), (Str.ofString "readers"), (Str.ofString "writers"), (Str.ofString "notes"), (Str.ofString "turn"), (Str.ofString "spot"), (Str.ofString "form")]
theorem kind_cell {l : List (Str × NameKind)} {y : Str} (h : l.all (fun p => p.2 != .cell || p.1 == y) = true) {x : Str} (e : l.lookup x = some .cell) : x = y := by
  have := List.all_eq_true.mp h _ (mem_of_lookup e)
  simpa using this
theorem law_join {w : World} {s₁ : Shared} {mg mb : Str → Option Value} {p : Params} {prog : Program} (KX : (hFr p).In s₁.heap) (lim : s₁.heap.NoLimit) (ng : s₁.heap.Ns mainGlobals mg) (nb : s₁.heap.Ns builtinsNs mb) (mbI : ∀ x, x ≠ ("__name__" : Str) → mb x = bootBuiltins x)
    {ns : List Int} {h₁ : Heap} {tk₁ : Nat} {name : Str} {sc : Scope} {body : List Stmt} {fa la : Addr} {cd : Value} {m : Str → Option Value} (F : Fr s₁.heap s₁.heap.objs.size h₁ m) (hm : m (Str.ofString "script") = some (.ref la))
    {oc : Obj} (N : News s₁.heap s₁.heap.objs.size h₁ [(s₁.heap.objs.size + 1, oc)]) {cv : Option Value} (hocd : oc.data = .cell cv) (hg : s₁.gens = #[])
    (hcells : ∀ n, cellsFrom n sc.names [] = [(Str.ofString "limit", n)]) (hkind : sc.kind = .function) (hsc : sc.names.lookup (Str.ofString "script") = some .local) (hall : sc.names.all (fun p => p.2 != .cell || p.1 == Str.ofString "limit") = true)
    (HB : GX (mkGC p prog w s₁.heap s₁.os mg mb KX lim ng nb mbI) p → SoundB (mkGC p prog w s₁.heap s₁.os mg mb KX lim ng nb mbI) 9 sc lawNames body (B_law la ns)) {R : Flow → Shared → Prop} {E : Value → Shared → Prop}
    (k : ∀ s' m', Fr s₁.heap s₁.heap.objs.size s'.heap m' → s'.os = s₁.os → s'.gens = #[] → R (.ret (.bool true)) s') :
    wpAny (model prog w) (callerA.deeper (envOfC name sc s₁.heap.objs.size fa cd)) (execs body (envOfC name sc s₁.heap.objs.size fa cd)) R E { heap := h₁, gens := s₁.gens, drawn := s₁.drawn, toks := tk₁, os := s₁.os } := by
  obtain ⟨N1, N2, N3⟩ := N _ (.head _)
  have hcs : (envOfC name sc s₁.heap.objs.size fa cd).cells = [(Str.ofString "limit", s₁.heap.objs.size + 1)] := hcells _
  have hlo : (envOfC name sc s₁.heap.objs.size fa cd).locals = s₁.heap.objs.size := rfl
  have look : ∀ x c, (envOfC name sc s₁.heap.objs.size fa cd).cells.lookup x = some c → x = Str.ofString "limit" ∧ c = s₁.heap.objs.size + 1 := fun x c e => by
    have := mem_of_lookup e
    rw [hcs, List.mem_singleton] at this
    cases this; exact ⟨rfl, rfl⟩
  have kof : ∀ x, (envOfC name sc s₁.heap.objs.size fa cd).kindOf x = some .cell → x = Str.ofString "limit" := fun x e => kind_cell hall e
  refine finish (X := mkGC p prog w s₁.heap s₁.os mg mb KX lim ng nb mbI) (HB ⟨rfl, rfl, rfl, rfl⟩) (κ := fun _ => none) (P := fun _ _ => False) (ls := some (.ext la) :: List.replicate 15 none) (σ := H0 h₁.objs.size) ⟨rfl, hkind, rfl, rfl⟩ (Rm.deeper ⟨by decide, by decide, rfl⟩) ⟨⟨F.keep, fun _ _ h => h.elim, fun _ _ h => (nomatch h), fun _ _ _ h => (nomatch h), fun _ _ h => (nomatch h), Nat.le_refl _, fun _ _ h => (nomatch h), hg, rfl, Nat.le_of_lt ?_⟩, ⟨fun a ha => ?_, rfl, ⟨m, F.ns, fun i x v h1 h2 => ?_⟩, fun x hx => ?_, by decide +kernel, fun x y c h1 h2 => ?_⟩⟩ (law_ok fun _ _ => rfl) fun s' m' h1 h2 h3 h4 => k s' m' ⟨h1, h2, Nat.le_refl _⟩ h3 h4
  · obtain ⟨o, _, _, ho, _⟩ := F.ns
    exact Heap.lt_size ho
  · have sz : ∀ o, s₁.heap.get? s₁.heap.objs.size ≠ some o := fun o e => absurd (Heap.lt_size e) (Nat.lt_irrefl _)
    rcases ha with rfl | ⟨x, hx⟩
    · refine ⟨rfl, ?_, fun _ h => h, ?_⟩
      · cases e : s₁.heap.get? s₁.heap.objs.size with
        | none => exact e
        | some o => exact absurd e (sz o)
      · obtain ⟨o, ho, hn⟩ := ns_notSeq F.ns
        exact ⟨o, ho, hn⟩
    · rw [hcs, List.mem_singleton] at hx
      cases hx
      exact ⟨rfl, N3, fun _ h => h, oc, N1, fun xs n e => by rw [hocd] at e; cases e⟩
  · cases i with
    | zero =>
      cases h1
      cases h2
      exact ⟨.ref la, rfl, .inl ⟨hsc, hm⟩⟩
    | succ i =>
      exfalso
      have : (List.replicate 15 (none : Option V))[i]? = some (some v) := by simpa using h2
      rw [List.getElem?_replicate] at this
      split at this <;> cases this
  · obtain rfl := kof x hx
    exact ⟨s₁.heap.objs.size + 1, cv, by rw [hcs]; simp, oc, N1, hocd⟩
  · rw [(look x c h1).1, (look y c h2).1]
end
end NT
open PyProof.V PySem.Spec
set_option maxRecDepth 100000
set_option maxHeartbeats 8000000
local macro_rules | `(tactic| k_qdec) => `(tactic| kernel_rfl)
theorem PySem.Challenge.cw_nt0362_01_holds : PySem.Challenge.rw_nt0362_01.Holds := by
  refine NT.hmain (by rfl) ?hw ?hc
  case hw => w_witness2
  k_go0
  rename (NT.hFr _).In _ => KX
  rename Glob _ _ _ _ _ _ _ _ => GL
  rename Fr _ _ _ _ => F
  rename News _ _ _ [_] => N0
  rename Heap.IsList _ _ _ => hL
  rename IntsAre _ _ => hI
  rename ¬ (63 : Int) < _ => h63
  rename _ = Data.cell _ => hcell
  rename Shared.gens _ = #[] => hg
  have hz := Nat.le_trans (Nat.le_of_eq hI.length) (show _ ≤ 1000 by omega)
  refine' NT.law_join KX GL.nolimit GL.g GL.b GL.builtins F ?jm N0 hcell hg ?jc ?jk ?js ?ja ?jB ?jE
  case jc => exact fun _ => rfl
  case jk => rfl
  case js => rfl
  case ja => decide +kernel
  case jm => exact rfl
  case jB => exact fun G => NT.h_lawB G hL hI hz (NT.l421 _)
  case jE =>
    intro s' m' F' ho' hg'
    show GoodW _ _ _ _ _ (.ok (.ret (.bool true))) _
    refine goodW_bool F' hg' (raisesW_false ?_) ?_ ho'
    · exact fun _ h => (nomatch h)
    · wrow_post
