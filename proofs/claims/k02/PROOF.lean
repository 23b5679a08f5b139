import PyProof.Rows.All
import Wide.All
import OpenK.AllK
import Wide.FinOn
import HandS.ForMost
import HandS.Exc
import HandS.ExcInit
import HandS.WordsExc
import HandS.TupAny
import HandS.Flow
import HandS.Star
import HandS.CallSlots
import HandS.Comp
import HandS.DictComp
import HandS.DeepEq
import PyProof.P3Eq
import HandS.IsInst
import HandS.Codes
import HandS.Deep
import PyProof.NeData
import HandS.Conv
import HandS.More
import PyProof.ListStr
import KE.GoesEnum
import HandS.Small
import PyProof.CollectStr
import PySem.Challenge.RW_tintspans_k02_whole_colours
set_option Elab.async false
set_option linter.all false
set_option maxRecDepth 100000
set_option maxHeartbeats 4000000
namespace FL
open PySem PySem.Spec PyProof.Rows L2

/-! ### plain data -/
inductive D where
  | non | bl (b : Bool) | int (i : Int) | str (x : Str) | fn (a : Addr)
  | tup (xs : List D) | lst (xs : List D) | dct (kvs : List (D × D)) | obj (C : Addr) (fs : List (Str × D))
mutual
def beqD : D → D → Bool
  | .non, .non => true
  | .bl a, .bl b => a == b
  | .int a, .int b => a == b
  | .str a, .str b => a == b
  | .fn a, .fn b => a == b
  | .tup a, .tup b => beqL a b
  | .lst a, .lst b => beqL a b
  | .dct a, .dct b => beqK a b
  | .obj C a, .obj C' b => C == C' && beqF a b
  | _, _ => false
def beqL : List D → List D → Bool
  | [], [] => true
  | a :: r, b :: s => beqD a b && beqL r s
  | _, _ => false
def beqK : List (D × D) → List (D × D) → Bool
  | [], [] => true
  | (a, x) :: r, (b, y) :: s => beqD a b && beqD x y && beqK r s
  | _, _ => false
def beqF : List (Str × D) → List (Str × D) → Bool
  | [], [] => true
  | (a, x) :: r, (b, y) :: s => a == b && beqD x y && beqF r s
  | _, _ => false
end
mutual
theorem beqD_iff : ∀ a b : D, beqD a b = true ↔ a = b
  | .tup a, b => by cases b <;> simp [beqD, beqL_iff a]
  | .lst a, b => by cases b <;> simp [beqD, beqL_iff a]
  | .dct a, b => by cases b <;> simp [beqD, beqK_iff a]
  | .obj C a, b => by cases b <;> simp [beqD, beqF_iff a]
  | .non, b => by cases b <;> simp [beqD]
  | .bl a, b => by cases b <;> simp [beqD]
  | .int a, b => by cases b <;> simp [beqD]
  | .str a, b => by cases b <;> simp [beqD]
  | .fn a, b => by cases b <;> simp [beqD]
theorem beqL_iff : ∀ a b : List D, beqL a b = true ↔ a = b
  | [], b => by cases b <;> simp [beqL]
  | x :: r, b => by cases b <;> simp [beqL, beqD_iff x, beqL_iff r]
theorem beqK_iff : ∀ a b : List (D × D), beqK a b = true ↔ a = b
  | [], b => by cases b <;> simp [beqK]
  | (x, y) :: r, b => by
    cases b with
    | nil => simp [beqK]
    | cons p s => obtain ⟨u, v⟩ := p; simp [beqK, beqD_iff x, beqD_iff y, beqK_iff r]
theorem beqF_iff : ∀ a b : List (Str × D), beqF a b = true ↔ a = b
  | [], b => by cases b <;> simp [beqF]
  | (x, y) :: r, b => by
    cases b with
    | nil => simp [beqF]
    | cons p s => obtain ⟨u, v⟩ := p; simp [beqF, beqD_iff y, beqF_iff r]
end
instance : DecidableEq D := fun a b => if h : beqD a b = true then isTrue ((beqD_iff a b).mp h) else isFalse fun e => h ((beqD_iff a b).mpr e)

/-- a key of a dict as data -/
def dK : Key → D
  | .inl i => .int i
  | .inr x => .str x
def keyOf : D → Option Key
  | .int i => some (.inl i)
  | .str x => some (.inr x)
  | _ => none
theorem keyOf_some {d : D} {k : Key} (h : keyOf d = some k) : d = dK k := by
  cases d <;> simp [keyOf] at h <;> (subst h; rfl)
theorem keyOf_dK (k : Key) : keyOf (dK k) = some k := by cases k <;> rfl
theorem dK_inj {a b : Key} (h : dK a = dK b) : a = b := by
  have := congrArg keyOf h
  rw [keyOf_dK, keyOf_dK] at this
  exact Option.some.inj this

/-! ### how data lies in the heap: all its objects at addresses of F, or in the written part -/
def TupAt (K : PySem.W.Frag) (F : Addr → Prop) (H : Hp) (a : Addr) (vs : List V) : Prop := (F a ∧ Rd H a (.tup vs)) ∨ SqT K (fun _ => none) a vs
def LstAt (K : PySem.W.Frag) (F : Addr → Prop) (H : Hp) (a : Addr) (vs : List V) : Prop := F a ∧ Rd H a (.lst vs)
theorem TupAt.sq {K : PySem.W.Frag} {F : Addr → Prop} {H : Hp} {a : Addr} {vs : List V} (h : TupAt K F H a vs) : SqT K H a vs := by
  rcases h with h | h
  · exact .inl h.2
  · rcases h with h | h
    · rcases h with h | ⟨o, h⟩ <;> cases h
    · exact .inr h
theorem LstAt.sq {K : PySem.W.Frag} {F : Addr → Prop} {H : Hp} {a : Addr} {vs : List V} (h : LstAt K F H a vs) : SqL K H a vs := .inl h.2
mutual
def Rep (K : PySem.W.Frag) (F : Addr → Prop) (H : Hp) : D → V → Prop
  | .non, v => v = .non
  | .bl b, v => v = .bl b
  | .int i, v => v = .int i
  | .str x, v => v = .str x
  | .fn a, v => v = .ref a
  | .tup xs, v => ∃ a vs, v = .ref a ∧ TupAt K F H a vs ∧ RepL K F H xs vs
  | .lst xs, v => ∃ a vs, v = .ref a ∧ LstAt K F H a vs ∧ RepL K F H xs vs
  | .dct kvs, v => ∃ a gs od, v = .ref a ∧ F a ∧ H a = some (.frz od (.dK gs)) ∧ RepK K F H kvs gs
  | .obj C fs, v => ∃ a dx gs, v = .ref a ∧ F a ∧ H a = some (.ins C dx gs) ∧ RepF K F H fs gs
def RepL (K : PySem.W.Frag) (F : Addr → Prop) (H : Hp) : List D → List V → Prop
  | [], vs => vs = []
  | d :: ds, vs => ∃ v r, vs = v :: r ∧ Rep K F H d v ∧ RepL K F H ds r
def RepK (K : PySem.W.Frag) (F : Addr → Prop) (H : Hp) : List (D × D) → List (Key × V) → Prop
  | [], vs => vs = []
  | (k, d) :: ds, vs => ∃ q v r, vs = (q, v) :: r ∧ k = dK q ∧ Rep K F H d v ∧ RepK K F H ds r
def RepF (K : PySem.W.Frag) (F : Addr → Prop) (H : Hp) : List (Str × D) → List (Str × V) → Prop
  | [], vs => vs = []
  | (k, d) :: ds, vs => ∃ v r, vs = (k, v) :: r ∧ Rep K F H d v ∧ RepF K F H ds r
end

/-- what stood at F stands -/
def Stays (F : Addr → Prop) (H H' : Hp) : Prop := ∀ a o, F a → H a = some o → H' a = some o
theorem Rd.stays {F : Addr → Prop} {H H' : Hp} {a : Addr} {u : HO} (s : Stays F H H') (f : F a) (h : Rd H a u) : Rd H' a u := by
  rcases h with h | ⟨o, h⟩
  · exact .inl (s _ _ f h)
  · exact .inr ⟨o, s _ _ f h⟩
theorem TupAt.mono {K : PySem.W.Frag} {F F' : Addr → Prop} {H H' : Hp} {a : Addr} {xs : List V} (hF : ∀ a, F a → F' a) (s : Stays F H H') (h : TupAt K F H a xs) : TupAt K F' H' a xs := by
  rcases h with h | h
  · exact .inl ⟨hF a h.1, Rd.stays s h.1 h.2⟩
  · exact .inr h
theorem LstAt.mono {K : PySem.W.Frag} {F F' : Addr → Prop} {H H' : Hp} {a : Addr} {xs : List V} (hF : ∀ a, F a → F' a) (s : Stays F H H') (h : LstAt K F H a xs) : LstAt K F' H' a xs := ⟨hF a h.1, Rd.stays s h.1 h.2⟩
section
variable {K : PySem.W.Frag} {F F' : Addr → Prop} {H H' : Hp}
mutual
theorem Rep.mono (hF : ∀ a, F a → F' a) (s : Stays F H H') : ∀ (d : D) (v : V), Rep K F H d v → Rep K F' H' d v
  | .non, v, h => by unfold Rep at *; exact h
  | .bl b, v, h => by unfold Rep at *; exact h
  | .int i, v, h => by unfold Rep at *; exact h
  | .str x, v, h => by unfold Rep at *; exact h
  | .fn a, v, h => by unfold Rep at *; exact h
  | .tup xs, v, h => by
    unfold Rep at *
    obtain ⟨a, vs, e, q, r⟩ := h
    exact ⟨a, vs, e, q.mono hF s, RepL.mono hF s xs vs r⟩
  | .lst xs, v, h => by
    unfold Rep at *
    obtain ⟨a, vs, e, q, r⟩ := h
    exact ⟨a, vs, e, q.mono hF s, RepL.mono hF s xs vs r⟩
  | .dct xs, v, h => by
    unfold Rep at *
    obtain ⟨a, vs, od, e, f, q, r⟩ := h
    exact ⟨a, vs, od, e, hF a f, s _ _ f q, RepK.mono hF s xs vs r⟩
  | .obj C xs, v, h => by
    unfold Rep at *
    obtain ⟨a, dx, vs, e, f, q, r⟩ := h
    exact ⟨a, dx, vs, e, hF a f, s _ _ f q, RepF.mono hF s xs vs r⟩
theorem RepL.mono (hF : ∀ a, F a → F' a) (s : Stays F H H') : ∀ (d : List D) (v : List V), RepL K F H d v → RepL K F' H' d v
  | [], v, h => by unfold RepL at *; exact h
  | d :: ds, vs, h => by
    unfold RepL at *
    obtain ⟨v, r, e, q, t⟩ := h
    exact ⟨v, r, e, Rep.mono hF s d v q, RepL.mono hF s ds r t⟩
theorem RepK.mono (hF : ∀ a, F a → F' a) (s : Stays F H H') : ∀ (d : List (D × D)) (v : List (Key × V)), RepK K F H d v → RepK K F' H' d v
  | [], v, h => by unfold RepK at *; exact h
  | (k, d) :: ds, vs, h => by
    unfold RepK at *
    obtain ⟨q, v, r, e, ek, x, t⟩ := h
    exact ⟨q, v, r, e, ek, Rep.mono hF s d v x, RepK.mono hF s ds r t⟩
theorem RepF.mono (hF : ∀ a, F a → F' a) (s : Stays F H H') : ∀ (d : List (Str × D)) (v : List (Str × V)), RepF K F H d v → RepF K F' H' d v
  | [], v, h => by unfold RepF at *; exact h
  | (k, d) :: ds, vs, h => by
    unfold RepF at *
    obtain ⟨v, r, e, x, t⟩ := h
    exact ⟨v, r, e, Rep.mono hF s d v x, RepF.mono hF s ds r t⟩
end
end

/-! ### ownership -/
/-- f: all frozen; o c: the object is one's own, its parts as c; r: an instance of one's own, its fields as told -/
inductive M where
  | f | o (c : M) | r (ms : List M)
mutual
def RepO (K : PySem.W.Frag) (F : Addr → Prop) (H : Hp) : M → D → V → List Addr → Prop
  | .f, d, v, fp => fp = [] ∧ Rep K F H d v
  | .o c, .lst ds, v, fp => ∃ a vs fr, v = .ref a ∧ H a = some (.lst vs) ∧ fp = a :: fr ∧ a ∉ fr ∧ RepOs (RepO K F H c) ds vs fr
  | .o c, .tup ds, v, fp => ∃ a vs fr, v = .ref a ∧ H a = some (.tup vs) ∧ fp = a :: fr ∧ a ∉ fr ∧ RepOs (RepO K F H c) ds vs fr
  | .o c, .dct kvs, v, fp => ∃ a gs fr, v = .ref a ∧ H a = some (.dK gs) ∧ fp = a :: fr ∧ a ∉ fr ∧ kvs.map (·.1) = gs.map (fun p => dK p.1) ∧ RepOs (RepO K F H c) (kvs.map (·.2)) (gs.map (·.2)) fr
  | .o _, _, _, _ => False
  | .r ms, .obj C fs, v, fp => ∃ a dx gs fr, v = .ref a ∧ H a = some (.ins C dx gs) ∧ fp = a :: fr ∧ a ∉ fr ∧ fs.map (·.1) = gs.map (·.1) ∧ RepOm K F H ms (fs.map (·.2)) (gs.map (·.2)) fr
  | .r _, _, _, _ => False
def RepOs (R : D → V → List Addr → Prop) : List D → List V → List Addr → Prop
  | [], vs, fp => vs = [] ∧ fp = []
  | d :: ds, vs, fp => ∃ v r f1 f2, vs = v :: r ∧ fp = f1 ++ f2 ∧ (∀ a ∈ f1, a ∉ f2) ∧ R d v f1 ∧ RepOs R ds r f2
def RepOm (K : PySem.W.Frag) (F : Addr → Prop) (H : Hp) : List M → List D → List V → List Addr → Prop
  | [], ds, vs, fp => ds = [] ∧ vs = [] ∧ fp = []
  | m :: ms, ds, vs, fp => ∃ d dr v r f1 f2, ds = d :: dr ∧ vs = v :: r ∧ fp = f1 ++ f2 ∧ (∀ a ∈ f1, a ∉ f2) ∧ RepO K F H m d v f1 ∧ RepOm K F H ms dr r f2
end
end FL

namespace FL
open PySem PySem.Spec PyProof.Rows L2
section
variable {K : PySem.W.Frag} {F F' : Addr → Prop} {H H' : Hp}

theorem RepOs.imp {R R' : D → V → List Addr → Prop} : ∀ (ds : List D) (vs : List V) (fp : List Addr), (∀ d v q, (∀ a ∈ q, a ∈ fp) → R d v q → R' d v q) → RepOs R ds vs fp → RepOs R' ds vs fp
  | [], vs, fp, h, r => r
  | d :: ds, vs, fp, h, r => by
    obtain ⟨v, t, f1, f2, e1, e2, dj, x, y⟩ := r
    subst e2
    exact ⟨v, t, f1, f2, e1, rfl, dj, h d v f1 (fun a m => List.mem_append_left _ m) x, RepOs.imp ds t f2 (fun d v q s => h d v q fun a m => List.mem_append_right _ (s a m)) y⟩
mutual
theorem RepO.there : ∀ (m : M) (d : D) (v : V) (fp : List Addr), RepO K F H m d v fp → ∀ a ∈ fp, ∃ o, H a = some o
  | .f, d, v, fp, h => by
    unfold RepO at h
    rw [h.1]
    intro a m
    cases m
  | .o c, d, v, fp, h => by
    have sub : ∀ (ds : List D) (vs : List V) (q : List Addr), RepOs (RepO K F H c) ds vs q → ∀ a ∈ q, ∃ o, H a = some o := by
      intro ds
      induction ds with
      | nil =>
        intro vs q r a m
        rw [r.2] at m
        cases m
      | cons d ds ih =>
        intro vs q r a m
        obtain ⟨v, t, f1, f2, e1, e2, _, x, y⟩ := r
        rw [e2] at m
        rcases List.mem_append.mp m with m | m
        · exact RepO.there c d v f1 x a m
        · exact ih t f2 y a m
    cases d with
    | lst ds =>
      unfold RepO at h
      obtain ⟨a, vs, fr, e, ha, ef, _, r⟩ := h
      intro b m
      rw [ef] at m
      rcases List.mem_cons.mp m with rfl | m
      · exact ⟨_, ha⟩
      · exact sub _ _ _ r b m
    | tup ds =>
      unfold RepO at h
      obtain ⟨a, vs, fr, e, ha, ef, _, r⟩ := h
      intro b m
      rw [ef] at m
      rcases List.mem_cons.mp m with rfl | m
      · exact ⟨_, ha⟩
      · exact sub _ _ _ r b m
    | dct kvs =>
      unfold RepO at h
      obtain ⟨a, vs, fr, e, ha, ef, _, _, r⟩ := h
      intro b m
      rw [ef] at m
      rcases List.mem_cons.mp m with rfl | m
      · exact ⟨_, ha⟩
      · exact sub _ _ _ r b m
    | _ => (unfold RepO at h; exact h.elim)
  | .r ms, d, v, fp, h => by
    cases d with
    | obj C fs =>
      unfold RepO at h
      obtain ⟨a, dx, gs, fr, e, ha, ef, _, _, r⟩ := h
      intro b m
      rw [ef] at m
      rcases List.mem_cons.mp m with rfl | m
      · exact ⟨_, ha⟩
      · exact RepOm.there ms _ _ _ r b m
    | _ => (unfold RepO at h; exact h.elim)
theorem RepOm.there : ∀ (ms : List M) (ds : List D) (vs : List V) (fp : List Addr), RepOm K F H ms ds vs fp → ∀ a ∈ fp, ∃ o, H a = some o
  | [], ds, vs, fp, h => by
    unfold RepOm at h
    rw [h.2.2]
    intro a m
    cases m
  | m :: ms, ds, vs, fp, h => by
    unfold RepOm at h
    obtain ⟨d, dr, v, r, f1, f2, e1, e2, e3, _, x, y⟩ := h
    intro a q
    rw [e3] at q
    rcases List.mem_append.mp q with q | q
    · exact RepO.there m d v f1 x a q
    · exact RepOm.there ms dr r f2 y a q
end
mutual
theorem RepO.mono (hF : ∀ a, F a → F' a) (s : Stays F H H') : ∀ (m : M) (d : D) (v : V) (fp : List Addr), (∀ a ∈ fp, H' a = H a) → RepO K F H m d v fp → RepO K F' H' m d v fp
  | .f, d, v, fp, k, h => by
    unfold RepO at *
    exact ⟨h.1, Rep.mono hF s d v h.2⟩
  | .o c, d, v, fp, k, h => by
    cases d with
    | lst ds =>
      unfold RepO at *
      obtain ⟨a, vs, fr, e, ha, ef, nf, r⟩ := h
      subst ef
      exact ⟨a, vs, fr, e, (k a List.mem_cons_self).trans ha, rfl, nf, RepOs.imp _ _ _ (fun d v q sq => RepO.mono hF s c d v q fun b m => k b (List.mem_cons_of_mem _ (sq b m))) r⟩
    | tup ds =>
      unfold RepO at *
      obtain ⟨a, vs, fr, e, ha, ef, nf, r⟩ := h
      subst ef
      exact ⟨a, vs, fr, e, (k a List.mem_cons_self).trans ha, rfl, nf, RepOs.imp _ _ _ (fun d v q sq => RepO.mono hF s c d v q fun b m => k b (List.mem_cons_of_mem _ (sq b m))) r⟩
    | dct kvs =>
      unfold RepO at *
      obtain ⟨a, vs, fr, e, ha, ef, nf, ek, r⟩ := h
      subst ef
      exact ⟨a, vs, fr, e, (k a List.mem_cons_self).trans ha, rfl, nf, ek, RepOs.imp _ _ _ (fun d v q sq => RepO.mono hF s c d v q fun b m => k b (List.mem_cons_of_mem _ (sq b m))) r⟩
    | _ => (unfold RepO at h; exact h.elim)
  | .r ms, d, v, fp, k, h => by
    cases d with
    | obj C fs =>
      unfold RepO at *
      obtain ⟨a, dx, gs, fr, e, ha, ef, nf, ek, r⟩ := h
      subst ef
      exact ⟨a, dx, gs, fr, e, (k a List.mem_cons_self).trans ha, rfl, nf, ek, RepOm.mono hF s ms _ _ _ (fun b m => k b (List.mem_cons_of_mem _ m)) r⟩
    | _ => (unfold RepO at h; exact h.elim)
theorem RepOm.mono (hF : ∀ a, F a → F' a) (s : Stays F H H') : ∀ (ms : List M) (ds : List D) (vs : List V) (fp : List Addr), (∀ a ∈ fp, H' a = H a) → RepOm K F H ms ds vs fp → RepOm K F' H' ms ds vs fp
  | [], ds, vs, fp, k, h => by
    unfold RepOm at *
    exact h
  | m :: ms, ds, vs, fp, k, h => by
    unfold RepOm at *
    obtain ⟨d, dr, v, r, f1, f2, e1, e2, e3, dj, x, y⟩ := h
    subst e3
    exact ⟨d, dr, v, r, f1, f2, e1, e2, rfl, dj, RepO.mono hF s m d v f1 (fun b q => k b (List.mem_append_left _ q)) x, RepOm.mono hF s ms dr r f2 (fun b q => k b (List.mem_append_right _ q)) y⟩
end
/-! no dict of one's own within -/
mutual
def noD : M → D → Bool
  | .f, _ => true
  | .o _, .dct _ => false
  | .o c, .lst ds => ds.all (noD c)
  | .o c, .tup ds => ds.all (noD c)
  | .o _, _ => true
  | .r ms, .obj _ fs => noDs ms (fs.map (·.2))
  | .r _, _ => true
def noDs : List M → List D → Bool
  | [], _ => true
  | _ :: _, [] => true
  | m :: ms, d :: ds => noD m d && noDs ms ds
end
/-- what one owns is let go: nobody writes it any more -/
def Plus (F : Addr → Prop) (fp : List Addr) : Addr → Prop := fun a => F a ∨ a ∈ fp
theorem repL_of {c : M} {G : Addr → Prop} (go : ∀ d v q, noD c d = true → RepO K F H c d v q → (∀ a ∈ q, G a) → Rep K G H d v) : ∀ (ds : List D) (vs : List V) (q : List Addr), ds.all (noD c) = true → (∀ a ∈ q, G a) → RepOs (RepO K F H c) ds vs q → RepL K G H ds vs
  | [], vs, q, n, g, r => by unfold RepL; exact r.1
  | d :: ds, vs, q, n, g, r => by
    have n := Bool.and_eq_true_iff.mp n
    obtain ⟨v, t, f1, f2, e1, e2, _, x, y⟩ := r
    subst e2
    unfold RepL
    exact ⟨v, t, e1, go d v f1 n.1 x fun a m => g a (List.mem_append_left _ m), repL_of go ds t f2 n.2 (fun a m => g a (List.mem_append_right _ m)) y⟩
mutual
theorem RepO.frozen {G : Addr → Prop} (hG : ∀ a, F a → G a) : ∀ (m : M) (d : D) (v : V) (fp : List Addr), noD m d = true → RepO K F H m d v fp → (∀ a ∈ fp, G a) → Rep K G H d v
  | .f, d, v, fp, n, h, g => by
    unfold RepO at h
    exact Rep.mono hG (fun a o f e => e) d v h.2
  | .o c, d, v, fp, n, h, g => by
    cases d with
    | lst ds =>
      unfold RepO at h
      obtain ⟨a, vs, fr, e, ha, ef, nf, r⟩ := h
      subst ef
      unfold Rep
      exact ⟨a, vs, e, ⟨g a List.mem_cons_self, .inl ha⟩, repL_of (fun d v q n x y => RepO.frozen hG c d v q n x y) _ _ _ (by unfold noD at n; exact n) (fun b m => g b (List.mem_cons_of_mem _ m)) r⟩
    | tup ds =>
      unfold RepO at h
      obtain ⟨a, vs, fr, e, ha, ef, nf, r⟩ := h
      subst ef
      unfold Rep
      exact ⟨a, vs, e, .inl ⟨g a List.mem_cons_self, .inl ha⟩, repL_of (fun d v q n x y => RepO.frozen hG c d v q n x y) _ _ _ (by unfold noD at n; exact n) (fun b m => g b (List.mem_cons_of_mem _ m)) r⟩
    | dct kvs => (unfold noD at n; exact absurd n Bool.false_ne_true)
    | _ => (unfold RepO at h; exact h.elim)
  | .r ms, d, v, fp, n, h, g => by
    cases d with
    | obj C fs =>
      unfold RepO at h
      unfold noD at n
      obtain ⟨a, dx, gs, fr, e, ha, ef, nf, ek, r⟩ := h
      subst ef
      unfold Rep
      exact ⟨a, dx, gs, e, g a List.mem_cons_self, ha, RepOm.frozen hG ms _ _ _ n r (fun b m => g b (List.mem_cons_of_mem _ m)) fs gs ek rfl rfl⟩
    | _ => (unfold RepO at h; exact h.elim)
theorem RepOm.frozen {G : Addr → Prop} (hG : ∀ a, F a → G a) : ∀ (ms : List M) (ds : List D) (vs : List V) (fp : List Addr), noDs ms ds = true → RepOm K F H ms ds vs fp → (∀ a ∈ fp, G a) → ∀ (fs : List (Str × D)) (gs : List (Str × V)), fs.map (·.1) = gs.map (·.1) → ds = fs.map (·.2) → vs = gs.map (·.2) → RepF K G H fs gs
  | [], ds, vs, fp, n, h, g, fs, gs, e, e1, e2 => by
    unfold RepOm at h
    obtain ⟨rfl, rfl, _⟩ := h
    cases fs with
    | nil =>
      unfold RepF
      cases gs with
      | nil => rfl
      | cons => simp at e2
    | cons => simp at e1
  | m :: ms, ds, vs, fp, n, h, g, fs, gs, e, e1, e2 => by
    unfold RepOm at h
    obtain ⟨d, dr, v, r, f1, f2, q1, q2, q3, _, x, y⟩ := h
    subst q3
    have n : noD m d = true ∧ noDs ms dr = true := by rw [q1] at n; unfold noDs at n; exact Bool.and_eq_true_iff.mp n
    cases fs with
    | nil =>
      rw [q1] at e1
      simp at e1
    | cons p fs =>
      cases gs with
      | nil => simp at e
      | cons p' gs =>
        obtain ⟨k, d'⟩ := p
        obtain ⟨k', v'⟩ := p'
        rw [q1] at e1
        rw [q2] at e2
        simp only [List.map_cons, List.cons.injEq] at e e1 e2
        obtain ⟨rfl, e⟩ := e
        obtain ⟨rfl, e1⟩ := e1
        obtain ⟨rfl, e2⟩ := e2
        unfold RepF
        exact ⟨v, gs, rfl, RepO.frozen hG m d v f1 n.1 x fun a q => g a (List.mem_append_left _ q), RepOm.frozen hG ms dr r f2 n.2 y (fun a q => g a (List.mem_append_right _ q)) fs gs e e1 e2⟩
end
end

/-! ### what a body's state bears -/
/-- the entry: its heap, what was frozen there, what the caller lent, the arguments -/
structure Gh where
  H0 : Hp
  F0 : Addr → Prop
  fp0 : Addr → Prop
  args : List V
/-- what is held beside the slots: a value of one's own, what a slot holds, a look at one that stands elsewhere, nothing any more -/
inductive TI where
  | t (m : M) (d : D) (v : V) | s (k : Nat) (v : V) | w (P : (Addr → Prop) → Hp → Prop) | x
/-- a slot: nothing, or a datum (p: it is still the parameter's object) -/
inductive Sl where
  | no | va (p : Option Nat) (m : M) (d : D) | xn (a d C : Addr) (fs : List (Str × D))
/-- it stands as long as what is frozen stands -/
def Stab (P : (Addr → Prop) → Hp → Prop) : Prop := ∀ F F' H H', (∀ a, F a → F' a) → Stays F H H' → P F H → P F' H'
def PX (K : PySem.W.Frag) (fs : List (Str × D)) (a : Addr) (gs : List (Str × V)) : (Addr → Prop) → Hp → Prop := fun F H => F a ∧ H a = some (.xd gs) ∧ RepF K F H fs gs
theorem px_stab {K : PySem.W.Frag} {fs : List (Str × D)} {a : Addr} {gs : List (Str × V)} : Stab (PX K fs a gs) := fun F F' H H' m s p => ⟨m a p.1, s a _ p.1 p.2.1, RepF.mono m s _ _ p.2.2⟩
def SlOk (K : PySem.W.Frag) (G : Gh) (F : Addr → Prop) (H : Hp) : Sl → Option (Option V) → List Addr → Prop
  | .no, _, fp => fp = []
  | .va p m d, ov, fp => ∃ v, ov = some (some v) ∧ RepO K F H m d v fp ∧ ∀ j, p = some j → G.args[j]? = some v
  | .xn a d C fs, ov, fp => fp = [] ∧ ov = some (some (.ref a)) ∧ ∃ gs, PX K fs d gs F H
def TIOk (K : PySem.W.Frag) (σ : L2.St) (F : Addr → Prop) (H : Hp) : TI → List Addr → Prop
  | .t m d v, fp => RepO K F H m d v fp
  | .s k v, fp => fp = [] ∧ σ[k]? = some (some v)
  | .w P, fp => fp = [] ∧ Stab P ∧ P F H
  | .x, fp => fp = []
structure EIF (K : PySem.W.Frag) (G : Gh) (st : List TI) (ρ : List Sl) (σ : L2.St) (H : Hp) (F : Addr → Prop) (fp : Bool → Nat → List Addr) : Prop where
  sl : ∀ i, SlOk K G F H (ρ.getD i .no) σ[i]? (fp true i)
  ti : ∀ j, TIOk K σ F H (st.getD j .x) (fp false j)
  nf : ∀ b i a, a ∈ fp b i → ¬ F a ∧ (G.fp0 a ∨ G.H0 a = none)
  dj : ∀ b i b' i' a, a ∈ fp b i → a ∈ fp b' i' → b = b' ∧ i = i'
  keep : ∀ a o, G.H0 a = some o → ¬ G.fp0 a → H a = some o
  f0 : ∀ a, G.F0 a → F a
  fo : ∀ a, F a → G.F0 a ∨ G.H0 a = none ∨ G.fp0 a
  lv : ∀ a, F a → ∃ o, H a = some o
  len : ρ.length = σ.length
def EI (K : PySem.W.Frag) (G : Gh) (st : List TI) (ρ : List Sl) (σ : L2.St) (H : Hp) : Prop := ∃ F fp, EIF K G st ρ σ H F fp
/-- things may be added, nothing is written -/
structure Ext (F : Addr → Prop) (H : Hp) (F' : Addr → Prop) (H' : Hp) : Prop where
  same : Same H H'
  more : ∀ a, F a → F' a
  new : ∀ a, F' a → F a ∨ H a = none
  lv : ∀ a, F' a → ∃ o, H' a = some o
theorem Ext.refl (F : Addr → Prop) (H : Hp) (lv : ∀ a, F a → ∃ o, H a = some o) : Ext F H F H := ⟨Same.refl H, fun _ h => h, fun _ h => .inl h, lv⟩
theorem Ext.stays {F F' : Addr → Prop} {H H' : Hp} (e : Ext F H F' H') : Stays F H H' := fun a o _ h => e.same a o h
theorem Ext.trans {F F1 F2 : Addr → Prop} {H H1 H2 : Hp} (a : Ext F H F1 H1) (b : Ext F1 H1 F2 H2) : Ext F H F2 H2 :=
  ⟨a.same.trans b.same, fun x h => b.more x (a.more x h), fun x h => by
    rcases b.new x h with h | h
    · exact a.new x h
    · exact .inr (a.same.free h), b.lv⟩
section
variable {K : PySem.W.Frag} {G : Gh} {st : List TI} {ρ : List Sl} {σ : L2.St} {H H' : Hp} {F F' : Addr → Prop} {fp : Bool → Nat → List Addr}
theorem RepO.ext {m : M} {d : D} {v : V} {q : List Addr} (r : RepO K F H m d v q) (e : Ext F H F' H') : RepO K F' H' m d v q :=
  RepO.mono e.more e.stays m d v q (fun a h => by
    obtain ⟨o, ho⟩ := RepO.there m d v q r a h
    rw [ho, e.same a o ho]) r
theorem SlOk.ext {s : Sl} {ov : Option (Option V)} {q : List Addr} (r : SlOk K G F H s ov q) (e : Ext F H F' H') : SlOk K G F' H' s ov q := by
  cases s with
  | no => exact r
  | va p m d =>
    obtain ⟨v, e1, x, y⟩ := r
    exact ⟨v, e1, x.ext e, y⟩
  | xn a d C fs =>
    obtain ⟨h1, h2, gs, p⟩ := r
    exact ⟨h1, h2, gs, px_stab _ _ _ _ e.more e.stays p⟩
theorem SlOk.there {s : Sl} {ov : Option (Option V)} {q : List Addr} (r : SlOk K G F H s ov q) : ∀ a ∈ q, ∃ o, H a = some o := by
  cases s with
  | no =>
    have r : q = [] := r
    rw [r]
    intro a m
    cases m
  | va p m d =>
    obtain ⟨v, e1, x, y⟩ := r
    exact RepO.there m d v q x
  | xn a d C fs =>
    rw [r.1]
    intro a m
    cases m
theorem TIOk.ext {s : TI} {q : List Addr} (r : TIOk K σ F H s q) (e : Ext F H F' H') : TIOk K σ F' H' s q := by
  cases s with
  | t m d v => exact RepO.ext (m := m) r e
  | s k v => exact r
  | w P => exact ⟨r.1, r.2.1, r.2.1 _ _ _ _ e.more e.stays r.2.2⟩
  | x => exact r
theorem TIOk.there {s : TI} {q : List Addr} (r : TIOk K σ F H s q) : ∀ a ∈ q, ∃ o, H a = some o := by
  cases s with
  | t m d v => exact RepO.there m d v q r
  | s k v =>
    obtain ⟨e1, _⟩ := r
    rw [e1]
    intro a m
    cases m
  | w P =>
    obtain ⟨e1, _⟩ := r
    rw [e1]
    intro a m
    cases m
  | x =>
    have r : q = [] := r
    rw [r]
    intro a m
    cases m
theorem EIF.there (I : EIF K G st ρ σ H F fp) : ∀ b i a, a ∈ fp b i → ∃ o, H a = some o := fun b i a h => by
  cases b with
  | true => exact (I.sl i).there a h
  | false => exact (I.ti i).there a h
theorem EIF.fresh (I : EIF K G st ρ σ H F fp) {a : Addr} (h : H a = none) : G.fp0 a ∨ G.H0 a = none := by
  cases q : G.H0 a with
  | none => exact .inr rfl
  | some o =>
    by_cases m : G.fp0 a
    · exact .inl m
    · rw [I.keep a o q m] at h
      cases h
theorem EIF.ext (I : EIF K G st ρ σ H F fp) (e : Ext F H F' H') : EIF K G st ρ σ H' F' fp where
  sl := fun i => (I.sl i).ext e
  ti := fun j => (I.ti j).ext e
  nf := fun b i a h => by
    refine ⟨fun q => ?_, (I.nf b i a h).2⟩
    rcases e.new a q with q | q
    · exact (I.nf b i a h).1 q
    · obtain ⟨o, ho⟩ := I.there b i a h
      rw [ho] at q
      cases q
  dj := I.dj
  keep := fun a o h n => e.same a o (I.keep a o h n)
  f0 := fun a h => e.more a (I.f0 a h)
  fo := fun a h => by
    rcases e.new a h with h | h
    · exact I.fo a h
    · exact .inr (I.fresh h).symm
  lv := e.lv
  len := I.len
def pushF (fp : Bool → Nat → List Addr) (q : List Addr) : Bool → Nat → List Addr
  | true, i => fp true i
  | false, 0 => q
  | false, j + 1 => fp false j
def popF (fp : Bool → Nat → List Addr) : Bool → Nat → List Addr
  | true, i => fp true i
  | false, j => fp false (j + 1)
theorem EIF.push {t : TI} {q : List Addr} (I : EIF K G st ρ σ H F fp) (ht : TIOk K σ F H t q) (h1 : ∀ a ∈ q, ¬ F a ∧ (G.fp0 a ∨ G.H0 a = none)) (h2 : ∀ a ∈ q, ∀ b i, a ∉ fp b i) : EIF K G (t :: st) ρ σ H F (pushF fp q) where
  sl := I.sl
  ti := fun j => match j with
    | 0 => ht
    | j + 1 => I.ti j
  nf := fun b i a h => match b, i, h with
    | true, i, h => I.nf true i a h
    | false, 0, h => h1 a h
    | false, j + 1, h => I.nf false j a h
  dj := fun b i b' i' a h h' => match b, i, b', i', h, h' with
    | true, i, true, i', h, h' => I.dj true i true i' a h h'
    | true, i, false, 0, h, h' => (h2 a h' true i h).elim
    | true, i, false, j + 1, h, h' => by have := (I.dj true i false j a h h').1; cases this
    | false, 0, true, i, h, h' => (h2 a h true i h').elim
    | false, j + 1, true, i, h, h' => by have := (I.dj true i false j a h' h).1; cases this
    | false, 0, false, 0, _, _ => ⟨rfl, rfl⟩
    | false, 0, false, j + 1, h, h' => (h2 a h false j h').elim
    | false, j + 1, false, 0, h, h' => (h2 a h' false j h).elim
    | false, j + 1, false, j' + 1, h, h' => ⟨rfl, by rw [(I.dj false j false j' a h h').2]⟩
  keep := I.keep
  f0 := I.f0
  fo := I.fo
  lv := I.lv
  len := I.len
theorem EIF.pop {t : TI} (I : EIF K G (t :: st) ρ σ H F fp) : EIF K G st ρ σ H F (popF fp) where
  sl := I.sl
  ti := fun j => I.ti (j + 1)
  nf := fun b i a h => match b, i, h with
    | true, i, h => I.nf true i a h
    | false, j, h => I.nf false (j + 1) a h
  dj := fun b i b' i' a h h' => match b, i, b', i', h, h' with
    | true, i, true, i', h, h' => I.dj true i true i' a h h'
    | true, i, false, j, h, h' => by have := (I.dj true i false (j + 1) a h h').1; cases this
    | false, j, true, i, h, h' => by have := (I.dj true i false (j + 1) a h' h).1; cases this
    | false, j, false, j', h, h' => ⟨rfl, by have := (I.dj false (j + 1) false (j' + 1) a h h').2; omega⟩
  keep := I.keep
  f0 := I.f0
  fo := I.fo
  lv := I.lv
  len := I.len
/-- a new value comes on top -/
theorem EIF.pushNew {m : M} {d : D} {v : V} {q : List Addr} (I : EIF K G st ρ σ H F fp) (e : Ext F H F' H') (r : RepO K F' H' m d v q) (hq : ∀ a ∈ q, ¬ F' a ∧ H a = none) : EI K G (.t m d v :: st) ρ σ H' :=
  ⟨F', pushF fp q, (I.ext e).push r (fun a h => ⟨(hq a h).1, I.fresh (hq a h).2⟩) fun a h b i h' => by
    obtain ⟨o, ho⟩ := I.there b i a h'
    rw [(hq a h).2] at ho
    cases ho⟩
theorem EI.pop {t : TI} (I : EI K G (t :: st) ρ σ H) : EI K G st ρ σ H := by
  obtain ⟨F, fp, I⟩ := I
  exact ⟨F, _, I.pop⟩
/-- looks end where something may be written -/
def TI.dim : TI → TI
  | u => u
def dims (p : Bool) (st : List TI) : List TI := if p then st else st.map TI.dim
theorem dim_dim (t : TI) : t.dim.dim = t.dim := by cases t <;> rfl
theorem dims_dims (p q : Bool) (st : List TI) : dims p (dims q st) = dims (q && p) st := by
  cases p <;> cases q <;> simp [dims, Function.comp_def, dim_dim]
theorem dims_cons (p : Bool) (t : TI) (st : List TI) : dims p (t :: st) = (if p then t else t.dim) :: dims p st := by
  cases p <;> rfl
theorem EIF.dims (I : EIF K G st ρ σ H F fp) (p : Bool) : EIF K G (dims p st) ρ σ H F fp := by
  cases p with
  | true => exact I
  | false =>
    refine ⟨I.sl, fun j => ?_, I.nf, I.dj, I.keep, I.f0, I.fo, I.lv, I.len⟩
    have t := I.ti j
    show TIOk K σ F H ((st.map TI.dim).getD j .x) (fp false j)
    rw [List.getD_eq_getElem?_getD] at t ⊢
    rw [List.getElem?_map]
    cases q : st[j]? with
    | none =>
      rw [q] at t
      exact t
    | some u =>
      rw [q] at t
      cases u with
      | t m d v => exact t
      | s k v => exact t
      | w P => exact t
      | x => exact t
theorem EI.dims (I : EI K G st ρ σ H) (p : Bool) : EI K G (dims p st) ρ σ H := by
  obtain ⟨F, fp, I⟩ := I
  exact ⟨F, fp, I.dims p⟩
/-- what the slot k holds -/
def slotAt (ρ : List Sl) (k : Nat) : Option (M × D) := match ρ[k]? with
  | some (.va _ m d) => some (m, d)
  | _ => none
/-- what an item tells now -/
def TI.cur (ρ : List Sl) : TI → Option (M × D)
  | .t m d _ => some (m, d)
  | .s k _ => slotAt ρ k
  | .w _ => none
  | .x => none
def TI.val : TI → V
  | .t _ _ v => v
  | .s _ v => v
  | .w _ => .non
  | .x => .non
theorem EIF.slot {k : Nat} {m : M} {d : D} (I : EIF K G st ρ σ H F fp) (h : slotAt ρ k = some (m, d)) : ∃ v, σ[k]? = some (some v) ∧ RepO K F H m d v (fp true k) := by
  have s := I.sl k
  rw [List.getD_eq_getElem?_getD] at s
  unfold slotAt at h
  cases q : ρ[k]? with
  | none =>
    rw [q] at h
    cases h
  | some u =>
    rw [q] at s h
    cases u with
    | no => cases h
    | va p m' d' =>
      obtain ⟨rfl, rfl⟩ : m' = m ∧ d' = d := by simpa using h
      obtain ⟨v, e, r, _⟩ := s
      exact ⟨v, e, r⟩
    | xn a d' C fs => cases h
theorem EIF.rep {j : Nat} {t : TI} {m : M} {d : D} (I : EIF K G st ρ σ H F fp) (hj : st[j]? = some t) (h : t.cur ρ = some (m, d)) : ∃ q, RepO K F H m d t.val q := by
  have x := I.ti j
  rw [List.getD_eq_getElem?_getD, hj] at x
  cases t with
  | t m' d' v =>
    obtain ⟨rfl, rfl⟩ : m' = m ∧ d' = d := by simpa [TI.cur] using h
    exact ⟨_, x⟩
  | s k v =>
    obtain ⟨_, e⟩ := x
    obtain ⟨v', e', r⟩ := I.slot h
    rw [e] at e'
    cases e'
    exact ⟨_, r⟩
  | w P => cases h
  | x => cases h
end
end FL

namespace FL
open PySem PySem.Spec PyProof.Rows L2
/-! ### expressions -/
inductive RK where
  | t | s (k : Nat) | w
def mkI : RK → M → D → V → TI
  | .t, m, d, v => .t m d v
  | .s k, _, _, v => .s k v
  | .w, m, d, v => .x
inductive EO where
  | ok (p : Bool) (k : RK) (m : M) (d : D) (ρ : List Sl)
  | ex (C : Addr) (fs : List (Str × D)) (ρ : List Sl)
  | no
/-- β, told of a: what follows is left alone by rewriting -/
abbrev KeepT {α : Type} (_ : α) (β : Type) : Type := β
def EO.bind : EO → (f : Bool → RK → M → D → List Sl → EO) → KeepT f EO
  | .ok p k m d ρ, f => f p k m d ρ
  | .ex C fs ρ, _ => .ex C fs ρ
  | .no, _ => .no
/-- what is known of a value that was reckoned earlier -/
def curR (p : Bool) (ρ : List Sl) : RK → M → D → Option (M × D)
  | .t, m, d => some (m, d)
  | .s k, _, _ => slotAt ρ k
  | .w, m, d => none
/-- an exception stands: its class, its own dict -/
theorem EI.drop2 {K : PySem.W.Frag} {G : Gh} {t u : TI} {st : List TI} {ρ : List Sl} {σ : L2.St} {H : Hp} (I : EI K G (t :: u :: st) ρ σ H) : EI K G (t :: st) ρ σ H := by
  obtain ⟨F, fp, I⟩ := I
  refine ⟨F, _, I.pop.pop.push (t := t) (q := fp false 0) (I.ti 0) (fun a h => I.nf false 0 a h) fun a h b i h' => ?_⟩
  cases b with
  | true =>
    have := (I.dj false 0 true i a h h').1
    cases this
  | false =>
    have := (I.dj false 0 false (i + 1 + 1) a h h').2
    omega
def AftX (K : PySem.W.Frag) (W : WX) (G : Gh) (st : List TI) (σ : L2.St) (C : Addr) (fs : List (Str × D)) (ρ : List Sl) : Prop :=
  ∀ a gs H, EI K G (.w (PX K fs a gs) :: dims false st) ρ σ H → W (.ref C) (some a) σ H
def Aft (K : PySem.W.Frag) (W : WX) (G : Gh) (st : List TI) (σ : L2.St) (Q : VK) : EO → Prop
  | .ok p k m d ρ => ∀ v H, EI K G (mkI k m d v :: dims p st) ρ σ H → Q v H
  | .ex C fs ρ => AftX K W G st σ C fs ρ
  | .no => False
def tE (K : PySem.W.Frag) (W : WX) (T : List Sl → EO) : TE := fun σ H Q => ∃ G st ρ, EI K G st ρ σ H ∧ Aft K W G st σ Q (T ρ)
def FE (X : Cx) (W : WX) (e : Expr) (T : List Sl → EO) : Prop := PE X e (tE X.K W T)
theorem PE.imp {X : Cx} {e : Expr} {t t' : TE} (h : PE X e t) (i : ∀ σ H Q, t' σ H Q → t σ H Q) : PE X e t' := ⟨fun pins s σ H Q I q => h.run pins s σ H Q I (i σ H Q q)⟩
/-- st1 has more on top than st -/
def Over (K : PySem.W.Frag) (st1 st : List TI) : Prop := ∀ G ρ σ H P, EI K G (.w P :: dims false st1) ρ σ H → EI K G (.w P :: dims false st) ρ σ H
theorem Over.refl {K : PySem.W.Frag} (st : List TI) : Over K st st := fun _ _ _ _ _ h => h
theorem Over.cons {K : PySem.W.Frag} {st1 st : List TI} (o : Over K st1 st) (t : TI) (p : Bool) : Over K (t :: dims p st1) st := fun G ρ σ H P h => by
  rw [dims_cons, dims_dims, Bool.and_false] at h
  exact o G ρ σ H P h.drop2
theorem Over.dims {K : PySem.W.Frag} {st1 st : List TI} (o : Over K st1 st) (p : Bool) : Over K (FL.dims p st1) st := fun G ρ σ H P h => by
  rw [dims_dims, Bool.and_false] at h
  exact o G ρ σ H P h
section
variable {K : PySem.W.Frag} {W : WX} {G : Gh} {st st1 : List TI} {ρ : List Sl} {σ : L2.St} {H : Hp} {Q R : VK}
theorem Aft.bind {x : EO} {f : Bool → RK → M → D → List Sl → EO} (h : Aft K W G st σ Q (x.bind f)) (o : Over K st1 st)
    (hk : ∀ p k m d ρ1, x = .ok p k m d ρ1 → Aft K W G st σ Q (f p k m d ρ1) → ∀ v H1, EI K G (mkI k m d v :: FL.dims p st1) ρ1 σ H1 → R v H1) : Aft K W G st1 σ R x := by
  cases x with
  | ok p k m d ρ1 => exact hk p k m d ρ1 rfl h
  | ex C fs ρ1 => exact fun a gs H I => h a gs H (o _ _ _ _ _ I)
  | no => exact h
/-- the end of a rule: a value that is new, or frozen -/
def EO.val (p : Bool) (ρ : List Sl) : Option (M × D) → EO
  | some (m, d) => .ok p .t m d ρ
  | none => .no
theorem mkI_cur {p : Bool} {k : RK} {m : M} {d : D} {v : V} {ρ : List Sl} {r : M × D} (h : curR p ρ k m d = some r) : (if p then mkI k m d v else (mkI k m d v).dim).cur ρ = some r := by
  cases k with
  | t => cases p <;> exact h
  | s k => cases p <;> exact h
  | w => cases h
theorem mkI_val {p : Bool} {k : RK} {m : M} {d : D} {v : V} {ρ : List Sl} {r : M × D} (h : curR p ρ k m d = some r) : (if p then mkI k m d v else (mkI k m d v).dim).val = v := by
  cases k with
  | t => cases p <;> rfl
  | s k => cases p <;> rfl
  | w => cases h
/-- what a value's rule hands on: a value whose objects are new or frozen -/
def Hands (K : PySem.W.Frag) (F : Addr → Prop) (H : Hp) (m : M) (d : D) (Q : VK) : Prop := ∀ v H' F' q, Ext F H F' H' → RepO K F' H' m d v q → (∀ a ∈ q, ¬ F' a ∧ H a = none) → Q v H'
theorem EIF.hands {F : Addr → Prop} {fp : Bool → Nat → List Addr} {m : M} {d : D} (I : EIF K G st ρ σ H F fp) (h : ∀ v H', EI K G (.t m d v :: st) ρ σ H' → Q v H') : Hands K F H m d Q := fun v H' F' q e r n => h v H' (I.pushNew e r n)
/-- one operand, two operands, by values -/
def OpU (K : PySem.W.Frag) (r : V → Hp → VK → Prop) (g : M × D → Option (M × D)) : Prop := ∀ (F : Addr → Prop) (H : Hp) (x : V) (a : M × D) (q : List Addr) (m : M) (d : D) (Q : VK), (∀ a, F a → ∃ o, H a = some o) → RepO K F H a.1 a.2 x q → g a = some (m, d) → Hands K F H m d Q → r x H Q
def OpM (K : PySem.W.Frag) (r : R2) (g : M × D → M × D → Option (M × D)) : Prop := ∀ (F : Addr → Prop) (H : Hp) (x y : V) (a b : M × D) (q q' : List Addr) (m : M) (d : D) (Q : VK), (∀ a, F a → ∃ o, H a = some o) → RepO K F H a.1 a.2 x q → RepO K F H b.1 b.2 y q' → g a b = some (m, d) → Hands K F H m d Q → r x y H Q
def use1 (g : M × D → Option (M × D)) (T : List Sl → EO) : List Sl → EO := fun ρ => (T ρ).bind fun p k m d ρ1 => .val p ρ1 ((curR true ρ1 k m d).bind g)
def use2 (g : M × D → M × D → Option (M × D)) (Ta Tb : List Sl → EO) : List Sl → EO := fun ρ => (Ta ρ).bind fun p1 k1 m1 d1 ρ1 => (Tb ρ1).bind fun p2 k2 m2 d2 ρ2 =>
  .val (p1 && p2) ρ2 ((curR p2 ρ2 k1 m1 d1).bind fun a => (curR true ρ2 k2 m2 d2).bind fun b => g a b)
theorem val_aft {p : Bool} {o : Option (M × D)} (h : Aft K W G st σ Q (.val p ρ o)) : ∃ m d, o = some (m, d) ∧ ∀ v H, EI K G (.t m d v :: dims p st) ρ σ H → Q v H := by
  cases o with
  | none => exact False.elim h
  | some r => exact ⟨r.1, r.2, rfl, h⟩
end
section
variable {X : Cx} {W : WX} {e : Expr} {T Ta Tb : List Sl → EO}
/-- any expression of one operand -/
theorem fe_use1 {r : V → Hp → VK → Prop} {g : M × D → Option (M × D)} (ho : OpU X.K r g) (h : PE X e (tUn r (tE X.K W T))) : FE X W e (use1 g T) := by
  refine PE.imp h fun σ H Q ⟨G, st, ρ, I, h⟩ => ⟨G, st, ρ, I, Aft.bind h (Over.refl st) fun p k m d ρ1 ex h v H1 I1 => ?_⟩
  obtain ⟨m', d', e1, h⟩ := val_aft h
  obtain ⟨a, ea, e1⟩ := Option.bind_eq_some_iff.mp e1
  obtain ⟨F, fp, I2⟩ := I1
  obtain ⟨q, r1⟩ := I2.rep (j := 0) rfl (mkI_cur (p := true) ea)
  have hv : (mkI k m d v).val = v := mkI_val (p := true) ea
  rw [hv] at r1
  exact ho F H1 v a q m' d' Q I2.lv r1 e1 (I2.pop.hands h)
theorem use2_t {K : PySem.W.Frag} {r : R2} {g : M × D → M × D → Option (M × D)} (ho : OpM K r g) {σ : L2.St} {H : Hp} {Q : VK} (h : tE K W (use2 g Ta Tb) σ H Q) : tOp r (tE K W Ta) (tE K W Tb) σ H Q := by
  obtain ⟨G, st, ρ, I, h⟩ := h
  refine ⟨G, st, ρ, I, Aft.bind h (Over.refl st) fun p1 k1 m1 d1 ρ1 ex1 h v H1 I1 => ?_⟩
  refine ⟨G, _, ρ1, I1, Aft.bind h ((Over.refl st).cons _ p1) fun p2 k2 m2 d2 ρ2 ex2 h u H2 I2 => ?_⟩
  obtain ⟨m', d', e1, h⟩ := val_aft h
  obtain ⟨a, ea, e1⟩ := Option.bind_eq_some_iff.mp e1
  obtain ⟨b, eb, e1⟩ := Option.bind_eq_some_iff.mp e1
  rw [dims_cons, dims_dims] at I2
  obtain ⟨F, fp, I3⟩ := I2
  obtain ⟨q, r1⟩ := I3.rep (j := 1) rfl (mkI_cur ea)
  obtain ⟨q', r2⟩ := I3.rep (j := 0) rfl (mkI_cur (p := true) eb)
  have hv : (if p2 then mkI k1 m1 d1 v else (mkI k1 m1 d1 v).dim).val = v := mkI_val ea
  have hu : (mkI k2 m2 d2 u).val = u := mkI_val (p := true) eb
  rw [hv] at r1
  rw [hu] at r2
  exact ho F H2 v u a b q q' m' d' Q I3.lv r1 r2 e1 (I3.pop.pop.hands h)
/-- any expression of two operands -/
theorem fe_use2 {r : R2} {g : M × D → M × D → Option (M × D)} (ho : OpM X.K r g) (h : PE X e (tOp r (tE X.K W Ta) (tE X.K W Tb))) : FE X W e (use2 g Ta Tb) := PE.imp h fun _ _ _ h => use2_t ho h
/-! constants, names -/
def konst (d : D) : List Sl → EO := fun ρ => .ok true .t .f d ρ
theorem fe_const {v : V} {d : D} (h : PE X e (tC v)) (r : ∀ F H, Rep X.K F H d v) : FE X W e (konst d) := by
  refine PE.imp h fun σ H Q ⟨G, st, ρ, I, h⟩ => ?_
  obtain ⟨F, fp, I⟩ := I
  refine h v H (I.pushNew (q := []) (Ext.refl F H I.lv) ?_ fun a m => nomatch m)
  unfold RepO
  exact ⟨rfl, r F H⟩
/-- a name: what is frozen is taken, what is one's own is looked at -/
def name (i : Nat) : List Sl → EO := fun ρ => match slotAt ρ i with
  | some (.f, d) => .ok true .t .f d ρ
  | some (m, d) => .ok true (.s i) m d ρ
  | none => .no
theorem fe_name {i : Nat} (h : PE X e (tVar i)) : FE X W e (name i) := by
  refine PE.imp h fun σ H Q ⟨G, st, ρ, I, h⟩ => ?_
  obtain ⟨F, fp, I⟩ := I
  unfold name at h
  cases q : slotAt ρ i with
  | none =>
    rw [q] at h
    exact h.elim
  | some r =>
    obtain ⟨m, d⟩ := r
    obtain ⟨v, ev, r⟩ := I.slot q
    rw [q] at h
    refine ⟨v, ev, ?_⟩
    cases m with
    | f =>
      unfold RepO at r
      refine h v H (I.pushNew (q := []) (Ext.refl F H I.lv) ?_ fun a m => nomatch m)
      unfold RepO
      exact ⟨rfl, r.2⟩
    | o c => exact h v H ⟨F, _, I.push (t := .s i v) (q := []) ⟨rfl, ev⟩ (fun a m => nomatch m) fun a m => nomatch m⟩
    | r ms => exact h v H ⟨F, _, I.push (t := .s i v) (q := []) ⟨rfl, ev⟩ (fun a m => nomatch m) fun a m => nomatch m⟩
end
end FL

namespace FL
open PySem PySem.Spec PyProof.Rows L2
/-! ### tests -/
inductive BO where
  | ok (p : Bool) (b : Bool) (ρ : List Sl)
  | ex (C : Addr) (fs : List (Str × D)) (ρ : List Sl)
  | no
def AftB (K : PySem.W.Frag) (W : WX) (G : Gh) (st : List TI) (σ : L2.St) (Q : Bool → Hp → Prop) : BO → Prop
  | .ok p b ρ => ∀ H, EI K G (dims p st) ρ σ H → Q b H
  | .ex C fs ρ => AftX K W G st σ C fs ρ
  | .no => False
def tT (K : PySem.W.Frag) (W : WX) (T : List Sl → BO) : TT := fun σ H Q => ∃ G st ρ, EI K G st ρ σ H ∧ AftB K W G st σ Q (T ρ)
def FT (X : Cx) (W : WX) (e : Expr) (T : List Sl → BO) : Prop := PT X e (tT X.K W T)
def FW (X : Cx) (W : WX) (e : Expr) (T : List Sl → BO) : Prop := PW X e (tT X.K W T)
theorem PT.imp {X : Cx} {e : Expr} {t t' : TT} (h : PT X e t) (i : ∀ σ H Q, t' σ H Q → t σ H Q) : PT X e t' := ⟨fun pins s σ H Q I q => h.run pins s σ H Q I (i σ H Q q)⟩
theorem PW.imp {X : Cx} {e : Expr} {t t' : TT} (h : PW X e t) (i : ∀ σ H Q, t' σ H Q → t σ H Q) : PW X e t' := ⟨fun wh pins s σ H Q I q => h.run wh pins s σ H Q I (i σ H Q q)⟩
def EO.bindB : EO → (f : Bool → RK → M → D → List Sl → BO) → KeepT f BO
  | .ok p k m d ρ, f => f p k m d ρ
  | .ex C fs ρ, _ => .ex C fs ρ
  | .no, _ => .no
def BO.bind : BO → (f : Bool → Bool → List Sl → EO) → KeepT f EO
  | .ok p b ρ, f => f p b ρ
  | .ex C fs ρ, _ => .ex C fs ρ
  | .no, _ => .no
def BO.bindB : BO → (f : Bool → Bool → List Sl → BO) → KeepT f BO
  | .ok p b ρ, f => f p b ρ
  | .ex C fs ρ, _ => .ex C fs ρ
  | .no, _ => .no
def EO.pur (p : Bool) : EO → EO
  | .ok q k m d ρ => .ok (p && q) k m d ρ
  | .ex C fs ρ => .ex C fs ρ
  | .no => .no
def BO.pur (p : Bool) : BO → BO
  | .ok q b ρ => .ok (p && q) b ρ
  | .ex C fs ρ => .ex C fs ρ
  | .no => .no
def truD : M × D → Option Bool
  | (.f, .non) => some false
  | (.f, .bl b) => some b
  | (.f, .int i) => some (i != 0)
  | (.f, .str x) => if x.length ≤ 16777216 then some ((x.length : Int) != 0) else none
  | (.f, .tup xs) => some (!xs.isEmpty)
  | (.f, .lst xs) => some (!xs.isEmpty)
  | (.o _, .tup xs) => some (!xs.isEmpty)
  | (.o _, .lst xs) => some (!xs.isEmpty)
  | (.o _, .dct xs) => some (!xs.isEmpty)
  | _ => none
section
variable {K : PySem.W.Frag} {W : WX} {G : Gh} {st st1 : List TI} {ρ : List Sl} {σ : L2.St} {H : Hp} {F : Addr → Prop}
theorem RepL.len : ∀ {ds : List D} {vs : List V}, RepL K F H ds vs → ds.length = vs.length
  | [], vs, h => by unfold RepL at h; subst h; rfl
  | d :: ds, vs, h => by
    unfold RepL at h
    obtain ⟨v, r, rfl, _, t⟩ := h
    simp [RepL.len t]
theorem RepOs.len {R : D → V → List Addr → Prop} : ∀ {ds : List D} {vs : List V} {q : List Addr}, RepOs R ds vs q → ds.length = vs.length
  | [], vs, q, h => by rw [h.1]; rfl
  | d :: ds, vs, q, h => by
    obtain ⟨v, r, f1, f2, rfl, _, _, _, t⟩ := h
    simp [RepOs.len t]
theorem RepK.len : ∀ {ds : List (D × D)} {vs : List (Key × V)}, RepK K F H ds vs → ds.length = vs.length
  | [], vs, h => by unfold RepK at h; subst h; rfl
  | (k, d) :: ds, vs, h => by
    unfold RepK at h
    obtain ⟨q, v, r, rfl, _, _, t⟩ := h
    simp [RepK.len t]
theorem emp_of {α β : Type} {xs : List α} {ys : List β} (h : xs.length = ys.length) : xs.isEmpty = ys.isEmpty := by
  cases xs <;> cases ys <;> simp at h ⊢
theorem truD_ok {m : M} {d : D} {v : V} {q : List Addr} {b : Bool} (r : RepO K F H m d v q) (h : truD (m, d) = some b) : TruV K v H b := by
  cases m with
  | f =>
    unfold RepO at r
    have r := r.2
    cases d with
    | non => unfold Rep at r; subst r; simp [truD] at h; subst h; rfl
    | bl c => unfold Rep at r; subst r; simp [truD] at h; subst h; rfl
    | int c => unfold Rep at r; subst r; simp only [truD, Option.some.injEq] at h; subst h; rfl
    | str c =>
      unfold Rep at r
      subst r
      simp only [truD] at h
      by_cases hc : c.length ≤ 16777216
      · rw [if_pos hc] at h
        exact ⟨by rw [sizeLine_eq]; exact hc, (Option.some.inj h).symm⟩
      · rw [if_neg hc] at h
        cases h
    | tup xs =>
      unfold Rep at r
      obtain ⟨a, vs, rfl, t, l⟩ := r
      simp only [truD, Option.some.injEq] at h
      exact .inr (.inl ⟨vs, t.sq, by rw [← h, emp_of l.len]⟩)
    | lst xs =>
      unfold Rep at r
      obtain ⟨a, vs, rfl, t, l⟩ := r
      simp only [truD, Option.some.injEq] at h
      exact .inl ⟨vs, t.sq, by rw [← h, emp_of l.len]⟩
    | dct xs => cases h
    | fn a => cases h
    | obj C fs => cases h
  | o c =>
    cases d with
    | tup xs =>
      unfold RepO at r
      obtain ⟨a, vs, fr, rfl, t, _, _, l⟩ := r
      simp only [truD, Option.some.injEq] at h
      exact .inr (.inl ⟨vs, SqT.of t, by rw [← h, emp_of l.len]⟩)
    | lst xs =>
      unfold RepO at r
      obtain ⟨a, vs, fr, rfl, t, _, _, l⟩ := r
      simp only [truD, Option.some.injEq] at h
      exact .inl ⟨vs, SqL.of t, by rw [← h, emp_of l.len]⟩
    | dct xs =>
      unfold RepO at r
      obtain ⟨a, gs, fr, rfl, t, _, _, _, l⟩ := r
      simp only [truD, Option.some.injEq] at h
      exact .inr (.inr ⟨gs, t, by rw [← h, emp_of (by simpa using l.len)]⟩)
    | _ => cases h
  | r ms => cases d <;> cases h
theorem Aft.bindB {x : EO} {f : Bool → RK → M → D → List Sl → BO} {Q : Bool → Hp → Prop} {R : VK} (h : AftB K W G st σ Q (x.bindB f)) (o : Over K st1 st)
    (hk : ∀ p k m d ρ1, x = .ok p k m d ρ1 → AftB K W G st σ Q (f p k m d ρ1) → ∀ v H1, EI K G (mkI k m d v :: FL.dims p st1) ρ1 σ H1 → R v H1) : Aft K W G st1 σ R x := by
  cases x with
  | ok p k m d ρ1 => exact hk p k m d ρ1 rfl h
  | ex C fs ρ1 => exact fun a gs H I => h a gs H (o _ _ _ _ _ I)
  | no => exact h
theorem AftB.bind {x : BO} {f : Bool → Bool → List Sl → EO} {Q : VK} {R : Bool → Hp → Prop} (h : Aft K W G st σ Q (x.bind f)) (o : Over K st1 st)
    (hk : ∀ p b ρ1, x = .ok p b ρ1 → Aft K W G st σ Q (f p b ρ1) → ∀ H1, EI K G (FL.dims p st1) ρ1 σ H1 → R b H1) : AftB K W G st1 σ R x := by
  cases x with
  | ok p b ρ1 => exact hk p b ρ1 rfl h
  | ex C fs ρ1 => exact fun a gs H I => h a gs H (o _ _ _ _ _ I)
  | no => exact h
theorem AftB.bindB {x : BO} {f : Bool → Bool → List Sl → BO} {Q : Bool → Hp → Prop} {R : Bool → Hp → Prop} (h : AftB K W G st σ Q (x.bindB f)) (o : Over K st1 st)
    (hk : ∀ p b ρ1, x = .ok p b ρ1 → AftB K W G st σ Q (f p b ρ1) → ∀ H1, EI K G (FL.dims p st1) ρ1 σ H1 → R b H1) : AftB K W G st1 σ R x := by
  cases x with
  | ok p b ρ1 => exact hk p b ρ1 rfl h
  | ex C fs ρ1 => exact fun a gs H I => h a gs H (o _ _ _ _ _ I)
  | no => exact h
theorem Aft.pur {x : EO} {p : Bool} {Q : VK} (h : Aft K W G st σ Q (x.pur p)) : Aft K W G (FL.dims p st) σ Q x := by
  cases x with
  | ok q k m d ρ1 =>
    intro v H1 I1
    rw [dims_dims] at I1
    exact h v H1 I1
  | ex C fs ρ1 => exact fun a gs H I => h a gs H (by rw [dims_dims, Bool.and_false] at I; exact I)
  | no => exact h
theorem AftB.pur {x : BO} {p : Bool} {Q : Bool → Hp → Prop} (h : AftB K W G st σ Q (x.pur p)) : AftB K W G (FL.dims p st) σ Q x := by
  cases x with
  | ok q b ρ1 =>
    intro H1 I1
    rw [dims_dims] at I1
    exact h H1 I1
  | ex C fs ρ1 => exact fun a gs H I => h a gs H (by rw [dims_dims, Bool.and_false] at I; exact I)
  | no => exact h
end
def BO.val (p : Bool) (ρ : List Sl) : Option Bool → BO
  | some b => .ok p b ρ
  | none => .no
/-- an expression's truth -/
def tru (T : List Sl → EO) : List Sl → BO := fun ρ => (T ρ).bindB fun p k m d ρ1 => .val p ρ1 ((curR true ρ1 k m d).bind truD)
/-- a value that is a bool, as a test -/
def boolD : D → Option Bool
  | .bl b => some b
  | _ => none
def isB (T : List Sl → EO) : List Sl → BO := fun ρ => (T ρ).bindB fun p k m d ρ1 => .val p ρ1 ((curR true ρ1 k m d).bind fun r => boolD r.2)
def andB (Ta Tb : List Sl → BO) : List Sl → BO := fun ρ => (Ta ρ).bindB fun p b ρ1 => if b then (Tb ρ1).pur p else .ok p false ρ1
def orB (Ta Tb : List Sl → BO) : List Sl → BO := fun ρ => (Ta ρ).bindB fun p b ρ1 => if b then .ok p true ρ1 else (Tb ρ1).pur p
def notB (Ta : List Sl → BO) : List Sl → BO := fun ρ => (Ta ρ).bindB fun p b ρ1 => .ok p (!b) ρ1
def ifE (Tc : List Sl → BO) (Ta Tb : List Sl → EO) : List Sl → EO := fun ρ => (Tc ρ).bind fun p b ρ1 => if b then (Ta ρ1).pur p else (Tb ρ1).pur p
/-- a and b, a or b: the values; the first one is a bool -/
def andE (Ta Tb : List Sl → EO) : List Sl → EO := fun ρ => (Ta ρ).bind fun p k m d ρ1 => match (curR true ρ1 k m d).bind fun r => boolD r.2 with
  | some true => (Tb ρ1).pur p
  | some false => .ok p .t .f (.bl false) ρ1
  | none => .no
def orE (Ta Tb : List Sl → EO) : List Sl → EO := fun ρ => (Ta ρ).bind fun p k m d ρ1 => match (curR true ρ1 k m d).bind fun r => boolD r.2 with
  | some false => (Tb ρ1).pur p
  | some true => .ok p .t .f (.bl true) ρ1
  | none => .no
/-- a or b of any values, by truth -/
def orTE (Ta Tb : List Sl → EO) : List Sl → EO := fun ρ => (Ta ρ).bind fun p k m d ρ1 => match (curR true ρ1 k m d).bind truD with
  | some true => .ok p k m d ρ1
  | some false => (Tb ρ1).pur p
  | none => .no
/-- a bool out of a test -/
def ofB (T : List Sl → BO) : List Sl → EO := fun ρ => (T ρ).bind fun p b ρ1 => .ok p .t .f (.bl b) ρ1
section
variable {X : Cx} {W : WX} {e a b c : Expr} {rest : List Expr} {pos : Pos} {T Ta Tb : List Sl → EO} {Bc Ba Bb : List Sl → BO}
theorem rep_top {K : PySem.W.Frag} {G : Gh} {st : List TI} {ρ : List Sl} {σ : L2.St} {H : Hp} {F : Addr → Prop} {fp : Bool → Nat → List Addr} {k : RK} {m : M} {d : D} {v : V} {r : M × D} (I : EIF K G (mkI k m d v :: st) ρ σ H F fp) (e : curR true ρ k m d = some r) : ∃ q, RepO K F H r.1 r.2 v q := by
  obtain ⟨q, r1⟩ := I.rep (j := 0) rfl (mkI_cur (p := true) e)
  have hv : (mkI k m d v).val = v := mkI_val (p := true) e
  rw [hv] at r1
  exact ⟨q, r1⟩
theorem rep_bl {K : PySem.W.Frag} {F : Addr → Prop} {H : Hp} {m : M} {c : Bool} {v : V} {q : List Addr} (r : RepO K F H m (.bl c) v q) : v = .bl c := by
  cases m with
  | f =>
    unfold RepO Rep at r
    exact r.2
  | o c => unfold RepO at r; exact r.elim
  | r ms => unfold RepO at r; exact r.elim
theorem repO_bl {K : PySem.W.Frag} {F : Addr → Prop} {H : Hp} {c : Bool} : RepO K F H .f (.bl c) (.bl c) [] := by
  unfold RepO Rep
  exact ⟨rfl, rfl⟩
theorem ft_tru (h : FE X W e T) (he : ∀ whole, isTrue e X.env whole = (do let v ← whole; standAt e.pos; holding [v] (truthy v))) : FT X W e (tru T) := by
  refine PT.imp (pt_truth h he) fun σ H Q ⟨G, st, ρ, I, h⟩ => ⟨G, st, ρ, I, Aft.bindB h (Over.refl st) fun p k m d ρ1 ex h v H1 I1 => ?_⟩
  cases ec : (curR true ρ1 k m d).bind truD with
  | none =>
    rw [ec] at h
    exact h.elim
  | some b =>
    rw [ec] at h
    obtain ⟨r, er, eb⟩ := Option.bind_eq_some_iff.mp ec
    obtain ⟨F, fp, I2⟩ := I1
    obtain ⟨q, r1⟩ := rep_top I2 er
    exact ⟨b, truD_ok r1 eb, h H1 ⟨F, _, I2.pop⟩⟩
theorem isB_aux {σ : L2.St} {H : Hp} {Q : Bool → Hp → Prop} (h : tT X.K W (isB T) σ H Q) : tE X.K W T σ H fun x H1 => ∃ c, x = .bl c ∧ Q c H1 := by
  obtain ⟨G, st, ρ, I, h⟩ := h
  refine ⟨G, st, ρ, I, Aft.bindB h (Over.refl st) fun p k m d ρ1 ex h v H1 I1 => ?_⟩
  cases ec : (curR true ρ1 k m d).bind fun r => boolD r.2 with
  | none =>
    rw [ec] at h
    exact h.elim
  | some b =>
    rw [ec] at h
    obtain ⟨r, er, eb⟩ := Option.bind_eq_some_iff.mp ec
    obtain ⟨F, fp, I2⟩ := I1
    obtain ⟨q, r1⟩ := rep_top I2 er
    obtain ⟨m', d'⟩ := r
    cases d' <;> simp [boolD] at eb
    subst eb
    exact ⟨_, rep_bl r1, h H1 ⟨F, _, I2.pop⟩⟩
/-- a comparison (by any rule), or a call that gives a bool, as a test -/
theorem ft_isB (h : PT X e (tB (tE X.K W T))) : FT X W e (isB T) := PT.imp h fun σ H Q h => isB_aux h
theorem ft_cmp {op : CmpOp} (h : FE X W (.Compare a [op] [b] pos) T) (he : ∀ whole, isTrue (.Compare a [op] [b] pos) X.env whole = isTrue (.Compare a [op] [b] pos) X.env (eval (.Compare a [op] [b] pos) X.env)) : True := trivial
theorem fw_and1 (ha : FT X W a Ba) : FW X W (.BoolOp .And [a] pos) Ba := pw_and1 ha
theorem fw_or1 (ha : FT X W a Ba) : FW X W (.BoolOp .Or [a] pos) Ba := pw_or1 ha
theorem fw_and (ha : FT X W a Ba) (hb : FW X W (.BoolOp .And (b :: rest) pos) Bb) : FW X W (.BoolOp .And (a :: b :: rest) pos) (andB Ba Bb) := by
  refine PW.imp (pw_and ha hb) fun σ H Q ⟨G, st, ρ, I, h⟩ => ⟨G, st, ρ, I, AftB.bindB h (Over.refl st) fun p c ρ1 ex h H1 I1 => ?_⟩
  cases c with
  | true =>
    rw [if_pos rfl] at h ⊢
    exact ⟨G, _, ρ1, I1, h.pur⟩
  | false =>
    rw [if_neg Bool.false_ne_true] at h ⊢
    exact h H1 I1
theorem fw_or (ha : FT X W a Ba) (hb : FW X W (.BoolOp .Or (b :: rest) pos) Bb) : FW X W (.BoolOp .Or (a :: b :: rest) pos) (orB Ba Bb) := by
  refine PW.imp (pw_or ha hb) fun σ H Q ⟨G, st, ρ, I, h⟩ => ⟨G, st, ρ, I, AftB.bindB h (Over.refl st) fun p c ρ1 ex h H1 I1 => ?_⟩
  cases c with
  | true =>
    rw [if_pos rfl] at h ⊢
    exact h H1 I1
  | false =>
    rw [if_neg Bool.false_ne_true] at h ⊢
    exact ⟨G, _, ρ1, I1, h.pur⟩
theorem FW.ft (h : FW X W e Ba) : FT X W e Ba := PW.pt h
theorem ft_not (ha : FT X W a Ba) : FT X W (.UnaryOp .Not a pos) (notB Ba) := by
  refine PT.imp (pt_not ha) fun σ H Q ⟨G, st, ρ, I, h⟩ => ⟨G, st, ρ, I, AftB.bindB h (Over.refl st) fun p c ρ1 ex h H1 I1 => h H1 I1⟩
theorem fe_if (hc : FT X W c Bc) (ha : FE X W a Ta) (hb : FE X W b Tb) : FE X W (.IfExp c a b pos) (ifE Bc Ta Tb) := by
  refine PE.imp (pe_ifExp hc ha hb) fun σ H Q ⟨G, st, ρ, I, h⟩ => ⟨G, st, ρ, I, AftB.bind h (Over.refl st) fun p c ρ1 ex h H1 I1 => ?_⟩
  cases c with
  | true =>
    rw [if_pos rfl] at h ⊢
    exact ⟨G, _, ρ1, I1, h.pur⟩
  | false =>
    rw [if_neg Bool.false_ne_true] at h ⊢
    exact ⟨G, _, ρ1, I1, h.pur⟩
theorem fe_one {op} (h : FE X W a T) : FE X W (.BoolOp op [a] pos) T := pe_one h
theorem fe_and (ha : FE X W a Ta) (hb : FE X W (.BoolOp .And (b :: rest) pos) Tb) : FE X W (.BoolOp .And (a :: b :: rest) pos) (andE Ta Tb) := by
  refine PE.imp (pe_and ha hb) fun σ H Q ⟨G, st, ρ, I, h⟩ => ⟨G, st, ρ, I, Aft.bind h (Over.refl st) fun p k m d ρ1 ex h v H1 I1 => ?_⟩
  cases ec : (curR true ρ1 k m d).bind fun r => boolD r.2 with
  | none =>
    simp only [ec] at h
    exact h.elim
  | some c =>
    obtain ⟨r, er, eb⟩ := Option.bind_eq_some_iff.mp ec
    obtain ⟨F, fp, I2⟩ := I1
    obtain ⟨q, r1⟩ := rep_top I2 er
    obtain ⟨m', d'⟩ := r
    cases d' <;> simp [boolD] at eb
    subst eb
    have ev := rep_bl r1
    rename_i c'
    refine ⟨c', ev, ?_⟩
    cases c' with
    | true =>
      simp only [ec] at h
      rw [if_pos rfl]
      exact ⟨G, _, ρ1, ⟨F, _, I2.pop⟩, h.pur⟩
    | false =>
      simp only [ec] at h
      rw [if_neg Bool.false_ne_true]
      exact h _ _ (I2.pop.pushNew (Ext.refl F H1 I2.lv) repO_bl fun a m => nomatch m)
theorem fe_or (ha : FE X W a Ta) (hb : FE X W (.BoolOp .Or (b :: rest) pos) Tb) : FE X W (.BoolOp .Or (a :: b :: rest) pos) (orE Ta Tb) := by
  refine PE.imp (pe_or ha hb) fun σ H Q ⟨G, st, ρ, I, h⟩ => ⟨G, st, ρ, I, Aft.bind h (Over.refl st) fun p k m d ρ1 ex h v H1 I1 => ?_⟩
  cases ec : (curR true ρ1 k m d).bind fun r => boolD r.2 with
  | none =>
    simp only [ec] at h
    exact h.elim
  | some c =>
    obtain ⟨r, er, eb⟩ := Option.bind_eq_some_iff.mp ec
    obtain ⟨F, fp, I2⟩ := I1
    obtain ⟨q, r1⟩ := rep_top I2 er
    obtain ⟨m', d'⟩ := r
    cases d' <;> simp [boolD] at eb
    subst eb
    have ev := rep_bl r1
    rename_i c'
    refine ⟨c', ev, ?_⟩
    cases c' with
    | false =>
      simp only [ec] at h
      rw [if_neg Bool.false_ne_true]
      exact ⟨G, _, ρ1, ⟨F, _, I2.pop⟩, h.pur⟩
    | true =>
      simp only [ec] at h
      rw [if_pos rfl]
      exact h _ _ (I2.pop.pushNew (Ext.refl F H1 I2.lv) repO_bl fun a m => nomatch m)
theorem fe_orT (ha : FE X W a Ta) (hb : FE X W (.BoolOp .Or (b :: rest) pos) Tb) : FE X W (.BoolOp .Or (a :: b :: rest) pos) (orTE Ta Tb) := by
  refine PE.imp (pe_orT ha hb) fun σ H Q ⟨G, st, ρ, I, h⟩ => ⟨G, st, ρ, I, Aft.bind h (Over.refl st) fun p k m d ρ1 ex h v H1 I1 => ?_⟩
  cases ec : (curR true ρ1 k m d).bind truD with
  | none =>
    simp only [ec] at h
    exact h.elim
  | some c =>
    obtain ⟨r, er, eb⟩ := Option.bind_eq_some_iff.mp ec
    obtain ⟨F, fp, I2⟩ := I1
    obtain ⟨q, r1⟩ := rep_top I2 er
    refine ⟨c, truD_ok r1 eb, ?_⟩
    cases c with
    | false =>
      simp only [ec] at h
      rw [if_neg Bool.false_ne_true]
      exact ⟨G, _, ρ1, ⟨F, _, I2.pop⟩, h.pur⟩
    | true =>
      simp only [ec] at h
      rw [if_pos rfl]
      exact h v H1 ⟨F, fp, I2⟩
theorem fe_not (ha : FE X W a Ta) : FE X W (.UnaryOp .Not a pos) (ofB (notB (isB Ta))) := by
  refine PE.imp (pe_not ha) fun σ H Q ⟨G, st, ρ, I, h⟩ => isB_aux ⟨G, st, ρ, I, ?_⟩
  have h := AftB.bind (R := fun b H1 => Q (.bl (!b)) H1) (x := isB Ta ρ) (f := fun p b ρ1 => .ok p .t .f (.bl (!b)) ρ1) (st1 := st) (Q := Q) (by
    have e : ((isB Ta ρ).bindB fun p b ρ1 => BO.ok p (!b) ρ1).bind (fun p b ρ1 => EO.ok p .t .f (.bl b) ρ1) = (isB Ta ρ).bind fun p b ρ1 => .ok p .t .f (.bl (!b)) ρ1 := by
      cases isB Ta ρ <;> rfl
    rw [← e]
    exact h) (Over.refl st) fun p b ρ1 ex h H1 I1 => by
      obtain ⟨F, fp, I2⟩ := I1
      exact h _ _ (I2.pushNew (Ext.refl F H1 I2.lv) repO_bl fun a m => nomatch m)
  exact h
end
end FL

namespace FL
open PySem PySem.Spec PyProof.Rows L2
/-! ### argument lists -/
inductive AK where
  | k (r : RK) | x
def dimK (p : Bool) : RK → AK
  | .w => if p then .k .w else .x
  | r => .k r
def dimA (p : Bool) : AK → AK
  | .k r => dimK p r
  | .x => .x
def mkA : AK × M × D → V → TI
  | (.k r, m, d), v => mkI r m d v
  | (.x, _, _), _ => .x
/-- the items of arguments, the last one on top -/
def stackA : List (AK × M × D) → List V → List TI → List TI
  | [], _, st => st
  | _ :: _, [], st => st
  | i :: is, v :: vs, st => stackA is vs (mkA i v :: st)
inductive AO where
  | ok (p : Bool) (its : List (AK × M × D)) (ρ : List Sl)
  | ex (C : Addr) (fs : List (Str × D)) (ρ : List Sl)
  | no
def AftA (K : PySem.W.Frag) (W : WX) (G : Gh) (st : List TI) (σ : L2.St) (Q : List V → Hp → Prop) : AO → Prop
  | .ok p its ρ => ∀ vs H, vs.length = its.length → EI K G (stackA its vs (dims p st)) ρ σ H → Q vs H
  | .ex C fs ρ => AftX K W G st σ C fs ρ
  | .no => False
def tA (K : PySem.W.Frag) (W : WX) (T : List Sl → AO) : TA := fun σ H Q => ∃ G st ρ, EI K G st ρ σ H ∧ AftA K W G st σ Q (T ρ)
def FA (X : Cx) (W : WX) (es : List Expr) (T : List Sl → AO) : Prop := PA X es (tA X.K W T)
theorem PA.imp {X : Cx} {es : List Expr} {t t' : TA} (h : PA X es t) (i : ∀ σ H Q, t' σ H Q → t σ H Q) : PA X es t' := ⟨fun pos pins s σ H Q I q => h.run pos pins s σ H Q I (i σ H Q q)⟩
def EO.bindA : EO → (f : Bool → RK → M → D → List Sl → AO) → KeepT f AO
  | .ok p k m d ρ, f => f p k m d ρ
  | .ex C fs ρ, _ => .ex C fs ρ
  | .no, _ => .no
def AO.consA (p : Bool) (k : RK) (m : M) (d : D) : AO → AO
  | .ok p2 its ρ => .ok (p && p2) ((dimK p2 k, m, d) :: its) ρ
  | .ex C fs ρ => .ex C fs ρ
  | .no => .no
def AO.bind : AO → (f : Bool → List (AK × M × D) → List Sl → EO) → KeepT f EO
  | .ok p its ρ, f => f p its ρ
  | .ex C fs ρ, _ => .ex C fs ρ
  | .no, _ => .no
def nilA : List Sl → AO := fun ρ => .ok true [] ρ
def consA (T : List Sl → EO) (Ts : List Sl → AO) : List Sl → AO := fun ρ => (T ρ).bindA fun p k m d ρ1 => (Ts ρ1).consA p k m d
section
variable {K : PySem.W.Frag} {W : WX} {G : Gh} {st st1 : List TI} {ρ : List Sl} {σ : L2.St} {H : Hp} {F : Addr → Prop}
theorem mkA_dim (p : Bool) (k : RK) (m : M) (d : D) (v : V) : mkA (dimK p k, m, d) v = if p then mkI k m d v else (mkI k m d v).dim := by
  cases k <;> cases p <;> rfl
theorem Aft.bindA {x : EO} {f : Bool → RK → M → D → List Sl → AO} {Q : List V → Hp → Prop} {R : VK} (h : AftA K W G st σ Q (x.bindA f)) (o : Over K st1 st)
    (hk : ∀ p k m d ρ1, x = .ok p k m d ρ1 → AftA K W G st σ Q (f p k m d ρ1) → ∀ v H1, EI K G (mkI k m d v :: FL.dims p st1) ρ1 σ H1 → R v H1) : Aft K W G st1 σ R x := by
  cases x with
  | ok p k m d ρ1 => exact hk p k m d ρ1 rfl h
  | ex C fs ρ1 => exact fun a gs H I => h a gs H (o _ _ _ _ _ I)
  | no => exact h
theorem AftA.bind {x : AO} {f : Bool → List (AK × M × D) → List Sl → EO} {Q : VK} {R : List V → Hp → Prop} (h : Aft K W G st σ Q (x.bind f)) (o : Over K st1 st)
    (hk : ∀ p its ρ1, x = .ok p its ρ1 → Aft K W G st σ Q (f p its ρ1) → ∀ vs H1, vs.length = its.length → EI K G (stackA its vs (FL.dims p st1)) ρ1 σ H1 → R vs H1) : AftA K W G st1 σ R x := by
  cases x with
  | ok p its ρ1 => exact hk p its ρ1 rfl h
  | ex C fs ρ1 => exact fun a gs H I => h a gs H (o _ _ _ _ _ I)
  | no => exact h
end
section
variable {X : Cx} {W : WX} {e : Expr} {es : List Expr} {T : List Sl → EO} {Ts : List Sl → AO} {p : Pos}
theorem fa_nil : FA X W [] nilA := PA.imp pa_nil fun σ H Q ⟨G, st, ρ, I, h⟩ => h [] H rfl I
theorem fa_cons (he : FE X W e T) (hr : FA X W es Ts) (hs : starEach (e :: es) X.env = (false, eval e X.env) :: starEach es X.env := by rfl) : FA X W (e :: es) (consA T Ts) := by
  refine PA.imp (pa_cons he hr hs) fun σ H Q ⟨G, st, ρ, I, h⟩ => ⟨G, st, ρ, I, Aft.bindA h (Over.refl st) fun p k m d ρ1 ex h v H1 I1 => ⟨G, _, ρ1, I1, ?_⟩⟩
  cases et : Ts ρ1 with
  | no =>
    rw [et] at h
    exact h.elim
  | ex C fs ρ2 =>
    rw [et] at h
    exact fun a gs H I => h a gs H (((Over.refl st).cons _ p) _ _ _ _ _ I)
  | ok p2 its ρ2 =>
    rw [et] at h
    intro vs H2 hl I2
    refine h (v :: vs) H2 (by simp [hl]) ?_
    show EI X.K G (stackA its vs (mkA (dimK p2 k, m, d) v :: dims (p && p2) st)) ρ2 σ H2
    rw [mkA_dim, ← dims_dims, ← dims_cons]
    exact I2
end
/-- what is known of arguments -/
def curA (ρ : List Sl) : AK × M × D → Option (M × D)
  | (.k r, m, d) => curR true ρ r m d
  | (.x, _, _) => none
def curs (ρ : List Sl) : List (AK × M × D) → Option (List (M × D))
  | [] => some []
  | i :: is => (curA ρ i).bind fun a => (curs ρ is).map (a :: ·)
def RepAs (K : PySem.W.Frag) (F : Addr → Prop) (H : Hp) : List (M × D) → List V → Prop
  | [], vs => vs = []
  | a :: as, vs => ∃ v r, vs = v :: r ∧ (∃ q, RepO K F H a.1 a.2 v q) ∧ RepAs K F H as r
section
variable {K : PySem.W.Frag} {W : WX} {G : Gh} {st st1 : List TI} {ρ : List Sl} {σ : L2.St} {H : Hp} {F : Addr → Prop}
theorem curA_rep {fp : Bool → Nat → List Addr} {i : AK × M × D} {v : V} {a : M × D} (I : EIF K G (mkA i v :: st) ρ σ H F fp) (h : curA ρ i = some a) : ∃ q, RepO K F H a.1 a.2 v q := by
  obtain ⟨k, m, d⟩ := i
  cases k with
  | x => cases h
  | k r => exact rep_top I h
/-- all arguments at once: what they are, and the state without them -/
theorem stackA_rep : ∀ {its : List (AK × M × D)} {vs : List V} {st : List TI} {as : List (M × D)} {fp : Bool → Nat → List Addr}, vs.length = its.length → EIF K G (stackA its vs st) ρ σ H F fp → curs ρ its = some as → RepAs K F H as vs ∧ ∃ fp', EIF K G st ρ σ H F fp'
  | [], vs, st, as, fp, hl, I, h => by
    cases vs with
    | nil =>
      simp only [curs, Option.some.injEq] at h
      subst h
      exact ⟨rfl, fp, I⟩
    | cons => simp at hl
  | i :: its, vs, st, as, fp, hl, I, h => by
    cases vs with
    | nil => simp at hl
    | cons v vs =>
      obtain ⟨a, ea, h⟩ := Option.bind_eq_some_iff.mp h
      obtain ⟨as', es, h⟩ := Option.map_eq_some_iff.mp h
      subst h
      obtain ⟨r, fp1, I1⟩ := stackA_rep (st := mkA i v :: st) (by simpa using hl) I es
      exact ⟨⟨v, vs, rfl, curA_rep I1 ea, r⟩, _, I1.pop⟩
end
def OpA (K : PySem.W.Frag) (r : List V → Hp → VK → Prop) (g : List (M × D) → Option (M × D)) : Prop := ∀ (F : Addr → Prop) (H : Hp) (vs : List V) (as : List (M × D)) (m : M) (d : D) (Q : VK), (∀ a, F a → ∃ o, H a = some o) → RepAs K F H as vs → g as = some (m, d) → Hands K F H m d Q → r vs H Q
def useA (g : List (M × D) → Option (M × D)) (Ts : List Sl → AO) : List Sl → EO := fun ρ => (Ts ρ).bind fun p its ρ1 => .val p ρ1 ((curs ρ1 its).bind g)
/-- each argument is frozen -/
def frzK : EO → EO
  | .ok p .t m d ρ => if noD m d then .ok p .t .f d ρ else .no
  | .ok _ _ _ _ _ => .no
  | .ex C fs ρ => .ex C fs ρ
  | .no => .no
def frz (T : List Sl → EO) : List Sl → EO := fun ρ => frzK (T ρ)
/-- a slot's object is let go, then taken -/
def nameF (i : Nat) : List Sl → EO := fun ρ => match ρ[i]? with
  | some (.va p m d) => if noD m d then .ok true .t .f d (ρ.set i (.va p .f d)) else .no
  | _ => .no
def setF (fp : Bool → Nat → List Addr) (b : Bool) (i : Nat) (q : List Addr) : Bool → Nat → List Addr := fun b' i' => if b' = b ∧ i' = i then q else fp b' i'
section
variable {K : PySem.W.Frag} {W : WX} {G : Gh} {st st1 : List TI} {ρ : List Sl} {σ : L2.St} {H : Hp} {F : Addr → Prop} {fp : Bool → Nat → List Addr}
theorem Ext.plus {q : List Addr} (lv : ∀ a, F a → ∃ o, H a = some o) (hq : ∀ a ∈ q, ∃ o, H a = some o) : Same H H ∧ (∀ a, F a → Plus F q a) ∧ ∀ a, Plus F q a → ∃ o, H a = some o :=
  ⟨Same.refl H, fun a h => .inl h, fun a h => h.elim (lv a) (hq a)⟩
theorem RepO.plus {q : List Addr} {m : M} {d : D} {v : V} {q' : List Addr} (r : RepO K F H m d v q') : RepO K (Plus F q) H m d v q' := RepO.mono (fun a h => .inl h) (fun a o _ h => h) m d v q' (fun a _ => rfl) r
theorem SlOk.plus {q : List Addr} {s : Sl} {ov : Option (Option V)} {q' : List Addr} (r : SlOk K G F H s ov q') : SlOk K G (Plus F q) H s ov q' := by
  cases s with
  | no => exact r
  | va p m d =>
    obtain ⟨v, e, x, y⟩ := r
    exact ⟨v, e, x.plus, y⟩
  | xn a d C fs =>
    obtain ⟨h1, h2, gs, p⟩ := r
    exact ⟨h1, h2, gs, px_stab _ _ _ _ (fun _ h => .inl h) (fun _ _ _ h => h) p⟩
theorem TIOk.plus {q : List Addr} {t : TI} {q' : List Addr} (r : TIOk K σ F H t q') : TIOk K σ (Plus F q) H t q' := by
  cases t with
  | t m d v => exact RepO.plus (m := m) r
  | s k v => exact r
  | w P => exact ⟨r.1, r.2.1, r.2.1 _ _ _ _ (fun _ h => .inl h) (fun _ _ _ h => h) r.2.2⟩
  | x => exact r
/-- what the top holds is let go -/
theorem EIF.frzTop {m : M} {d : D} {v : V} (I : EIF K G (.t m d v :: st) ρ σ H F fp) (n : noD m d = true) : EIF K G (.t .f d v :: st) ρ σ H (Plus F (fp false 0)) (setF fp false 0 []) := by
  have top : RepO K F H m d v (fp false 0) := I.ti 0
  have at_ : ∀ b i a, a ∈ setF fp false 0 [] b i → a ∈ fp b i ∧ ¬ (b = false ∧ i = 0) := fun b i a h => by
    unfold setF at h
    split at h
    · cases h
    · exact ⟨h, by assumption⟩
  refine ⟨fun i => ?_, fun j => ?_, fun b i a h => ?_, fun b i b' i' a h h' => I.dj b i b' i' a (at_ _ _ _ h).1 (at_ _ _ _ h').1, I.keep, fun a h => .inl (I.f0 a h), fun a h => ?_, fun a h => ?_, I.len⟩
  · have e : setF fp false 0 [] true i = fp true i := by simp [setF]
    rw [e]
    exact (I.sl i).plus
  · cases j with
    | zero =>
      show RepO K _ H .f d v []
      unfold RepO
      exact ⟨rfl, RepO.frozen (fun a h => .inl h) m d v _ n top fun a h => .inr h⟩
    | succ j =>
      have e : setF fp false 0 [] false (j + 1) = fp false (j + 1) := by simp [setF]
      rw [e]
      exact (I.ti (j + 1)).plus
  · obtain ⟨h1, h2⟩ := at_ _ _ _ h
    refine ⟨fun z => ?_, (I.nf b i a h1).2⟩
    rcases z with z | z
    · exact (I.nf b i a h1).1 z
    · exact h2 (I.dj b i false 0 a h1 z)
  · rcases h with h | h
    · exact I.fo a h
    · rcases (I.nf false 0 a h).2 with z | z
      · exact .inr (.inr z)
      · exact .inr (.inl z)
  · rcases h with h | h
    · exact I.lv a h
    · exact I.there false 0 a h
/-- what a slot holds is let go -/
theorem EIF.frzSlot {i : Nat} {p : Option Nat} {m : M} {d : D} (I : EIF K G st ρ σ H F fp) (hi : ρ[i]? = some (.va p m d)) (n : noD m d = true) : EIF K G st (ρ.set i (.va p .f d)) σ H (Plus F (fp true i)) (setF fp true i []) := by
  have at_ : ∀ b j a, a ∈ setF fp true i [] b j → a ∈ fp b j ∧ ¬ (b = true ∧ j = i) := fun b j a h => by
    unfold setF at h
    split at h
    · cases h
    · exact ⟨h, by assumption⟩
  have hlt : i < ρ.length := (List.getElem?_eq_some_iff.mp hi).1
  have here := I.sl i
  rw [List.getD_eq_getElem?_getD, hi] at here
  obtain ⟨v, ev, r, hp⟩ := here
  refine ⟨fun j => ?_, fun j => ?_, fun b j a h => ?_, fun b j b' i' a h h' => I.dj b j b' i' a (at_ _ _ _ h).1 (at_ _ _ _ h').1, I.keep, fun a h => .inl (I.f0 a h), fun a h => ?_, fun a h => ?_, by rw [List.length_set]; exact I.len⟩
  · by_cases hj : j = i
    · subst hj
      have e : setF fp true j [] true j = [] := by simp [setF]
      rw [e, List.getD_eq_getElem?_getD, List.getElem?_set_self hlt]
      refine ⟨v, ev, ?_, hp⟩
      unfold RepO
      exact ⟨rfl, RepO.frozen (fun a h => .inl h) m d v _ n r fun a h => .inr h⟩
    · have e : setF fp true i [] true j = fp true j := by simp [setF, hj]
      rw [e, List.getD_eq_getElem?_getD, List.getElem?_set_ne (Ne.symm hj), ← List.getD_eq_getElem?_getD]
      exact (I.sl j).plus
  · have e : setF fp true i [] false j = fp false j := by simp [setF]
    rw [e]
    exact (I.ti j).plus
  · obtain ⟨h1, h2⟩ := at_ _ _ _ h
    refine ⟨fun z => ?_, (I.nf b j a h1).2⟩
    rcases z with z | z
    · exact (I.nf b j a h1).1 z
    · exact h2 (I.dj b j true i a h1 z)
  · rcases h with h | h
    · exact I.fo a h
    · rcases (I.nf true i a h).2 with z | z
      · exact .inr (.inr z)
      · exact .inr (.inl z)
  · rcases h with h | h
    · exact I.lv a h
    · exact I.there true i a h
end
section
variable {X : Cx} {W : WX} {e : Expr} {es : List Expr} {T : List Sl → EO} {Ts : List Sl → AO} {pos : Pos}
theorem fe_frz (h : FE X W e T) : FE X W e (frz T) := by
  refine PE.imp h fun σ H Q ⟨G, st, ρ, I, h⟩ => ⟨G, st, ρ, I, ?_⟩
  unfold frz at h
  cases et : T ρ with
  | no =>
    rw [et] at h
    exact h
  | ex C fs ρ1 =>
    rw [et] at h
    exact h
  | ok p k m d ρ1 =>
    rw [et] at h
    cases k with
    | t =>
      simp only [frzK] at h
      by_cases n : noD m d = true
      · rw [if_pos n] at h
        intro v H1 I1
        obtain ⟨F, fp, I2⟩ := I1
        exact h v H1 ⟨_, _, I2.frzTop n⟩
      · rw [if_neg n] at h
        exact h.elim
    | s k => exact h.elim
    | w => exact h.elim
theorem fe_nameF {i : Nat} (h : PE X e (tVar i)) : FE X W e (nameF i) := by
  refine PE.imp h fun σ H Q ⟨G, st, ρ, I, h⟩ => ?_
  unfold nameF at h
  cases q : ρ[i]? with
  | none =>
    rw [q] at h
    exact h.elim
  | some s =>
    rw [q] at h
    cases s with
    | no => exact h.elim
    | xn a d C fs => exact h.elim
    | va p m d =>
      obtain ⟨F, fp, I⟩ := I
      by_cases n : noD m d = true
      case neg =>
        simp only [if_neg n] at h
        exact h.elim
      simp only [if_pos n] at h
      have I2 := I.frzSlot q n
      have here := I2.sl i
      rw [List.getD_eq_getElem?_getD, List.getElem?_set_self (List.getElem?_eq_some_iff.mp q).1] at here
      obtain ⟨v, ev, r, _⟩ := here
      refine ⟨v, ev, h v H (I2.pushNew (q := []) (Ext.refl _ H I2.lv) ?_ fun a m => nomatch m)⟩
      unfold RepO at r ⊢
      exact ⟨rfl, r.2⟩
/-- any expression of arguments: a call of a built-in, a display -/
theorem fe_useA {r : List V → Hp → VK → Prop} {g : List (M × D) → Option (M × D)} (ho : OpA X.K r g) (h : PE X e (fun σ H Q => tA X.K W Ts σ H fun vs H1 => r vs H1 Q)) : FE X W e (useA g Ts) := by
  refine PE.imp h fun σ H Q ⟨G, st, ρ, I, h⟩ => ⟨G, st, ρ, I, AftA.bind h (Over.refl st) fun p its ρ1 ex h vs H1 hl I1 => ?_⟩
  obtain ⟨m', d', e1, h⟩ := val_aft h
  obtain ⟨as, ea, e1⟩ := Option.bind_eq_some_iff.mp e1
  obtain ⟨F, fp, I2⟩ := I1
  obtain ⟨r1, fp', I3⟩ := stackA_rep hl I2 ea
  exact ho F H1 vs as m' d' Q I3.lv r1 e1 (I3.hands h)
end
/-- frozen ones alone -/
def allF : List (M × D) → Option (List D)
  | [] => some []
  | (.f, d) :: r => (allF r).map (d :: ·)
  | _ => none
theorem allF_rep {K : PySem.W.Frag} {F : Addr → Prop} {H : Hp} : ∀ {as : List (M × D)} {ds : List D} {vs : List V}, allF as = some ds → RepAs K F H as vs → RepL K F H ds vs
  | [], ds, vs, h, r => by
    simp only [allF, Option.some.injEq] at h
    subst h
    unfold RepL
    exact r
  | (m, d) :: as, ds, vs, h, r => by
    cases m with
    | f =>
      simp only [allF] at h
      obtain ⟨ds', e, rfl⟩ := Option.map_eq_some_iff.mp h
      obtain ⟨v, t, rfl, ⟨q, x⟩, y⟩ := r
      unfold RepO at x
      unfold RepL
      exact ⟨v, t, rfl, x.2, allF_rep e y⟩
    | o c => cases h
    | r ms => cases h
def tupD (as : List (M × D)) : Option (M × D) := (allF as).bind fun ds => if ds.length ≤ 16777216 then some (.f, .tup ds) else none
def lstD (as : List (M × D)) : Option (M × D) := (allF as).bind fun ds => if ds.length ≤ 16777216 then some (.o .f, .lst ds) else none
section
variable {K : PySem.W.Frag} {F : Addr → Prop} {H : Hp}
theorem RepOs.frz : ∀ {ds : List D} {vs : List V}, RepL K F H ds vs → RepOs (RepO K F H .f) ds vs []
  | [], vs, h => by unfold RepL at h; exact ⟨h, rfl⟩
  | d :: ds, vs, h => by
    unfold RepL at h
    obtain ⟨v, r, e, x, t⟩ := h
    refine ⟨v, r, [], [], e, rfl, (fun a m => nomatch m), ?_, RepOs.frz t⟩
    unfold RepO
    exact ⟨rfl, x⟩
theorem RepOs.unfrz : ∀ {ds : List D} {vs : List V} {q : List Addr}, RepOs (RepO K F H .f) ds vs q → q = [] ∧ RepL K F H ds vs
  | [], vs, q, h => by unfold RepL; exact ⟨h.2, h.1⟩
  | d :: ds, vs, q, h => by
    obtain ⟨v, r, f1, f2, e1, e2, _, x, t⟩ := h
    unfold RepO at x
    obtain ⟨e3, t⟩ := RepOs.unfrz t
    unfold RepL
    exact ⟨by rw [e2, x.1, e3]; rfl, v, r, e1, x.2, t⟩
/-- a new object at p -/
theorem Ext.put {p : Addr} {o : HO} (lv : ∀ a, F a → ∃ o, H a = some o) (hp : H p = none) : Ext F H F (upd H p o) where
  same := fun b u h => by rw [upd_ne (ne_of_none h hp)]; exact h
  more := fun _ h => h
  new := fun _ h => .inl h
  lv := fun a h => by
    obtain ⟨u, hu⟩ := lv a h
    exact ⟨u, by rw [upd_ne (ne_of_none hu hp)]; exact hu⟩
/-- a new frozen object at p -/
theorem Ext.putF {p : Addr} {o : HO} (lv : ∀ a, F a → ∃ o, H a = some o) (hp : H p = none) : Ext F H (Plus F [p]) (upd H p o) where
  same := fun b u h => by rw [upd_ne (ne_of_none h hp)]; exact h
  more := fun _ h => .inl h
  new := fun a h => by
    rcases h with h | h
    · exact .inl h
    · exact .inr (by rw [List.mem_singleton.mp h]; exact hp)
  lv := fun a h => by
    rcases h with h | h
    · obtain ⟨u, hu⟩ := lv a h
      exact ⟨u, by rw [upd_ne (ne_of_none hu hp)]; exact hu⟩
    · exact ⟨o, by rw [List.mem_singleton.mp h]; exact upd_same⟩
theorem hands_tup {p : Addr} {ds : List D} {vs : List V} {Q : VK} (lv : ∀ a, F a → ∃ o, H a = some o) (hp : H p = none) (r : RepL K F H ds vs) (h : Hands K F H .f (.tup ds) Q) : Q (.ref p) (upd H p (.tup vs)) := by
  have e := Ext.putF (o := .tup vs) lv hp
  refine h _ _ _ [] e ?_ fun a m => nomatch m
  unfold RepO Rep
  exact ⟨rfl, p, vs, rfl, .inl ⟨.inr (by simp), .inl upd_same⟩, RepL.mono e.more e.stays _ _ r⟩
theorem hands_lst {p : Addr} {ds : List D} {vs : List V} {Q : VK} (lv : ∀ a, F a → ∃ o, H a = some o) (hp : H p = none) (r : RepL K F H ds vs) (h : Hands K F H (.o .f) (.lst ds) Q) : Q (.ref p) (upd H p (.lst vs)) := by
  have e := Ext.put (o := .lst vs) lv hp
  refine h _ _ _ [p] e ?_ fun a m => ?_
  · unfold RepO
    exact ⟨p, vs, [], rfl, upd_same, rfl, by simp, RepOs.frz (RepL.mono e.more e.stays _ _ r)⟩
  · rw [List.mem_singleton.mp m]
    refine ⟨fun z => ?_, hp⟩
    obtain ⟨o, ho⟩ := lv p z
    rw [hp] at ho
    cases ho
theorem op_tup : OpA K (fun xs H1 Q => xs.length ≤ sizeLine ∧ ∀ p, H1 p = none → Q (.ref p) (upd H1 p (.tup xs))) tupD := by
  intro F H vs as m d Q lv r e h
  obtain ⟨ds, ea, e⟩ := Option.bind_eq_some_iff.mp e
  have rl := allF_rep ea r
  split at e
  · rename_i hz
    cases e
    exact ⟨by rw [← rl.len, sizeLine_eq]; exact hz, fun p hp => hands_tup lv hp rl h⟩
  · cases e
theorem op_lst : OpA K (fun xs H1 Q => xs.length ≤ sizeLine ∧ ∀ p, H1 p = none → Q (.ref p) (upd H1 p (.lst xs))) lstD := by
  intro F H vs as m d Q lv r e h
  obtain ⟨ds, ea, e⟩ := Option.bind_eq_some_iff.mp e
  have rl := allF_rep ea r
  split at e
  · rename_i hz
    cases e
    exact ⟨by rw [← rl.len, sizeLine_eq]; exact hz, fun p hp => hands_lst lv hp rl h⟩
  · cases e
end
section
variable {X : Cx} {W : WX} {es : List Expr} {Ts : List Sl → AO} {pos : Pos}
theorem fe_tup {x1} (h : FA X W es Ts) : FE X W (.Tuple es x1 pos) (useA tupD Ts) := fe_useA op_tup (pe_tup h)
theorem fe_lst (h : FA X W es Ts) : FE X W (.List es pos) (useA lstD Ts) := fe_useA op_lst (pe_lst h)
end
end FL

namespace FL
open PySem PySem.Spec PyProof.Rows L2
/-! ### what a def does, as a function of data -/
inductive FO where
  | ret (m : M) (d : D) (as : List (M × D))
  | exc (C : Addr) (fs : List (Str × D)) (as : List (M × D))
  | no
/-- what may have changed: P was lent -/
structure Moved (F : Addr → Prop) (P : Addr → Prop) (H : Hp) (F' : Addr → Prop) (H' : Hp) : Prop where
  keep : ∀ a o, H a = some o → ¬ P a → H' a = some o
  more : ∀ a, F a → F' a
  new : ∀ a, F' a → F a ∨ H a = none ∨ P a
  lv : ∀ a, F' a → ∃ o, H' a = some o
def ArgsOk (K : PySem.W.Frag) (F : Addr → Prop) (H : Hp) (vs : List V) (as : List (M × D)) (fp : Nat → List Addr) : Prop := ∀ j a, as[j]? = some a → ∃ v, vs[j]? = some v ∧ RepO K F H a.1 a.2 v (fp j)
structure Back (K : PySem.W.Frag) (F : Addr → Prop) (fp : Nat → List Addr) (H : Hp) (vs : List V) (as' : List (M × D)) (F' : Addr → Prop) (fp' : Nat → List Addr) (H' : Hp) : Prop where
  mv : Moved F (fun a => ∃ j, a ∈ fp j) H F' H'
  args : ArgsOk K F' H' vs as' fp'
  own : ∀ j a, a ∈ fp' j → ¬ F' a ∧ (H a = none ∨ ∃ j, a ∈ fp j)
  dj : ∀ i j a, a ∈ fp' i → a ∈ fp' j → i = j
def PostF (K : PySem.W.Frag) (vs : List V) (F : Addr → Prop) (fp : Nat → List Addr) (H : Hp) (Q : VK) (E : XK) : FO → Prop
  | .ret m d as' => ∀ v H' F' q fp', Back K F fp H vs as' F' fp' H' → RepO K F' H' m d v q → (∀ a ∈ q, ¬ F' a ∧ (H a = none ∨ ∃ j, a ∈ fp j) ∧ ∀ j, a ∉ fp' j) → Q v H'
  | .exc C fs as' => ∀ ad gs H' F' fp', Back K F fp H vs as' F' fp' H' → F' ad → H' ad = some (.xd gs) → RepF K F' H' fs gs → E (.ref C) (some ad) H'
  | .no => False
def spF (K : PySem.W.Frag) (n : Nat) (f : List (M × D) → FO) : Sp := fun vs H Q E => vs.length = n ∧ ∃ (F : Addr → Prop) (fp : Nat → List Addr) (as : List (M × D)), as.length = n ∧ (∀ a, F a → ∃ o, H a = some o) ∧ ArgsOk K F H vs as fp ∧
  (∀ j a, a ∈ fp j → j < n ∧ ¬ F a) ∧ (∀ i j a, a ∈ fp i → a ∈ fp j → i = j) ∧ PostF K vs F fp H Q E (f as)
/-! ### a call: slots are lent -/
def lent (ρ : List Sl) : AK × M × D → Option (M × D)
  | (.k .t, .f, d) => some (.f, d)
  | (.k (.s k), _, _) => slotAt ρ k
  | _ => none
def slotOf : AK × M × D → Option Nat
  | (.k (.s k), _, _) => some k
  | _ => none
def lents (ρ : List Sl) : List (AK × M × D) → Option (List (M × D))
  | [] => some []
  | i :: is => (lent ρ i).bind fun a => (lents ρ is).map (a :: ·)
/-- no slot twice -/
def apart : List (Option Nat) → Bool
  | [] => true
  | none :: r => apart r
  | some k :: r => !r.contains (some k) && apart r
def allNone : List (Option Nat) → Bool
  | [] => true
  | none :: r => allNone r
  | some _ :: _ => false
/-- what the arguments' slots hold behind the call -/
def backSl (ss : List (Option Nat)) (as' : List (M × D)) (i : Nat) (s : Sl) : Sl := match ss.findIdx? (· == some i), s with
  | some j, .va p m d => (match as'[j]? with
    | some a => .va p a.1 a.2
    | none => .no)
  | _, s => s
def backs (ρ : List Sl) (ss : List (Option Nat)) (as' : List (M × D)) : List Sl := ρ.mapIdx (backSl ss as')
def callE (f : List (M × D) → FO) (Ts : List Sl → AO) : List Sl → EO := fun ρ => (Ts ρ).bind fun p its ρ1 => match lents ρ1 its with
  | none => .no
  | some as => if apart (its.map slotOf) then (match f as with
    | .ret m d as' => .ok (p && allNone (its.map slotOf)) .t m d (backs ρ1 (its.map slotOf) as')
    | .exc C fs as' => .ex C fs (backs ρ1 (its.map slotOf) as')
    | .no => .no) else .no
section
variable {K : PySem.W.Frag} {W : WX} {G : Gh} {st st1 : List TI} {ρ : List Sl} {σ : L2.St} {H : Hp} {F : Addr → Prop} {fp : Bool → Nat → List Addr}
def argFp (fp : Bool → Nat → List Addr) (ss : List (Option Nat)) (j : Nat) : List Addr := match ss[j]? with
  | some (some k) => fp true k
  | _ => []
theorem apart_inj : ∀ {ss : List (Option Nat)} {i j : Nat} {k : Nat}, apart ss = true → ss[i]? = some (some k) → ss[j]? = some (some k) → i = j
  | [], i, j, k, h, h1, h2 => by simp at h1
  | none :: r, 0, _, k, h, h1, h2 => by simp at h1
  | none :: r, i + 1, 0, k, h, h1, h2 => by simp at h2
  | none :: r, i + 1, j + 1, k, h, h1, h2 => by
    have h' : apart r = true := h
    exact congrArg (· + 1) (apart_inj h' (by simpa using h1) (by simpa using h2))
  | some q :: r, 0, 0, k, h, h1, h2 => rfl
  | some q :: r, 0, j + 1, k, h, h1, h2 => by
    have h' : (!r.contains (some q) && apart r) = true := h
    simp only [Bool.and_eq_true, Bool.not_eq_true', List.contains_eq_mem, decide_eq_false_iff_not] at h'
    simp only [List.getElem?_cons_zero, Option.some.injEq] at h1
    subst h1
    simp only [List.getElem?_cons_succ] at h2
    exact absurd (List.mem_of_getElem? h2) h'.1
  | some q :: r, i + 1, 0, k, h, h1, h2 => by
    have h' : (!r.contains (some q) && apart r) = true := h
    simp only [Bool.and_eq_true, Bool.not_eq_true', List.contains_eq_mem, decide_eq_false_iff_not] at h'
    simp only [List.getElem?_cons_zero, Option.some.injEq] at h2
    subst h2
    simp only [List.getElem?_cons_succ] at h1
    exact absurd (List.mem_of_getElem? h1) h'.1
  | some q :: r, i + 1, j + 1, k, h, h1, h2 => by
    have h' : (!r.contains (some q) && apart r) = true := h
    simp only [Bool.and_eq_true] at h'
    exact congrArg (· + 1) (apart_inj h'.2 (by simpa using h1) (by simpa using h2))
theorem EIF.popA : ∀ {its : List (AK × M × D)} {vs : List V} {st : List TI} {fp : Bool → Nat → List Addr}, vs.length = its.length → EIF K G (stackA its vs st) ρ σ H F fp → ∃ fp', EIF K G st ρ σ H F fp' ∧ fp' true = fp true
  | [], vs, st, fp, hl, I => by
    cases vs with
    | nil => exact ⟨fp, I, rfl⟩
    | cons => simp at hl
  | i :: its, vs, st, fp, hl, I => by
    cases vs with
    | nil => simp at hl
    | cons v vs =>
      obtain ⟨fp1, I1, e⟩ := EIF.popA (st := mkA i v :: st) (by simpa using hl) I
      exact ⟨_, I1.pop, e⟩
/-- each argument, with what it lends -/
theorem lents_rep : ∀ {its : List (AK × M × D)} {vs : List V} {st : List TI} {as : List (M × D)} {fp : Bool → Nat → List Addr}, vs.length = its.length → EIF K G (stackA its vs st) ρ σ H F fp → lents ρ its = some as →
    as.length = vs.length ∧ ∀ j a, as[j]? = some a → ∃ v, vs[j]? = some v ∧ RepO K F H a.1 a.2 v (argFp fp (its.map slotOf) j) ∧ ∀ k, (its.map slotOf)[j]? = some (some k) → slotAt ρ k = some a ∧ σ[k]? = some (some v)
  | [], vs, st, as, fp, hl, I, h => by
    simp only [lents, Option.some.injEq] at h
    subst h
    refine ⟨by simpa using hl.symm, fun j a e => by simp at e⟩
  | i :: its, vs, st, as, fp, hl, I, h => by
    cases vs with
    | nil => simp at hl
    | cons v vs =>
      obtain ⟨a0, ea, h⟩ := Option.bind_eq_some_iff.mp h
      obtain ⟨as', es, h⟩ := Option.map_eq_some_iff.mp h
      subst h
      have hl' : vs.length = its.length := by simpa using hl
      obtain ⟨l1, r1⟩ := lents_rep (st := mkA i v :: st) hl' I es
      obtain ⟨fp1, I1, e1⟩ := EIF.popA (st := mkA i v :: st) hl' I
      refine ⟨by simp [l1], fun j a e => ?_⟩
      cases j with
      | succ j =>
        simp only [List.getElem?_cons_succ] at e
        obtain ⟨w, ew, rw', rk⟩ := r1 j a e
        refine ⟨w, by simpa using ew, ?_, fun k hk => rk k (by simpa using hk)⟩
        have ef : argFp fp ((i :: its).map slotOf) (j + 1) = argFp fp (its.map slotOf) j := by simp [argFp]
        rw [ef]
        exact rw'
      | zero =>
        simp only [List.getElem?_cons_zero, Option.some.injEq] at e
        subst e
        refine ⟨v, rfl, ?_⟩
        have t := I1.ti 0
        obtain ⟨kk, m, d⟩ := i
        cases kk with
        | x => cases ea
        | k r =>
          cases r with
          | t =>
            cases m with
            | f =>
              simp only [lent, Option.some.injEq] at ea
              subst ea
              have t : RepO K F H .f d v (fp1 false 0) := t
              have ef : argFp fp (((AK.k RK.t, M.f, d) :: its).map slotOf) 0 = [] := rfl
              rw [ef]
              unfold RepO at t ⊢
              exact ⟨⟨rfl, t.2⟩, fun k hk => by simp [slotOf] at hk⟩
            | o c => cases ea
            | r ms => cases ea
          | w =>
            cases m with
            | f => cases ea
            | o c => cases ea
            | r ms => cases ea
          | s k =>
            have ea : slotAt ρ k = some a0 := ea
            obtain ⟨_, t⟩ : fp1 false 0 = [] ∧ σ[k]? = some (some v) := t
            obtain ⟨w, ew, rw'⟩ := I1.slot (k := k) (m := a0.1) (d := a0.2) ea
            rw [t] at ew
            cases ew
            have ef : argFp fp (((AK.k (RK.s k), m, d) :: its).map slotOf) 0 = fp true k := rfl
            rw [ef, ← e1]
            refine ⟨rw', fun k' hk => ?_⟩
            simp only [List.map_cons, slotOf, List.getElem?_cons_zero, Option.some.injEq] at hk
            subst hk
            exact ⟨ea, t⟩
theorem backs_get {ss : List (Option Nat)} {as' : List (M × D)} (i : Nat) : (backs ρ ss as').getD i .no = backSl ss as' i (ρ.getD i .no) := by
  unfold backs
  rw [List.getD_eq_getElem?_getD, List.getD_eq_getElem?_getD, List.getElem?_mapIdx]
  cases ρ[i]? with
  | none =>
    show Sl.no = backSl ss as' i Sl.no
    unfold backSl
    cases ss.findIdx? (· == some i) <;> rfl
  | some s => rfl
theorem find_some {ss : List (Option Nat)} {i j : Nat} (h : ss.findIdx? (· == some i) = some j) : ss[j]? = some (some i) := by
  obtain ⟨hj, e, _⟩ := List.findIdx?_eq_some_iff_getElem.mp h
  rw [List.getElem?_eq_getElem hj]
  simpa using e
theorem find_none {ss : List (Option Nat)} {i j : Nat} (h : ss.findIdx? (· == some i) = none) : ss[j]? ≠ some (some i) := fun e => by
  have := List.findIdx?_eq_none_iff.mp h (some i) (List.mem_of_getElem? e)
  simp at this
def fpBack (fp : Bool → Nat → List Addr) (ss : List (Option Nat)) (as' : List (M × D)) (fp' : Nat → List Addr) : Bool → Nat → List Addr
  | true, i => (match ss.findIdx? (· == some i) with
    | some j => (match as'[j]? with
      | some _ => fp' j
      | none => [])
    | none => fp true i)
  | false, j => fp false j
theorem argFp_mem {ss : List (Option Nat)} {j : Nat} {a : Addr} (h : a ∈ argFp fp ss j) : ∃ k, ss[j]? = some (some k) ∧ a ∈ fp true k := by
  unfold argFp at h
  split at h
  · rename_i k e
    exact ⟨k, e, h⟩
  · cases h
/-- what is not lent lies elsewhere -/
theorem EIF.notLent {ss : List (Option Nat)} {b : Bool} {i : Nat} {a : Addr} (I : EIF K G st ρ σ H F fp) (h : a ∈ fp b i) (n : b = true → ∀ j : Nat, ss[j]? ≠ some (some i)) : ¬ ∃ j, a ∈ argFp fp ss j := fun ⟨j, hj⟩ => by
  obtain ⟨k, e, hk⟩ := argFp_mem hj
  obtain ⟨e1, e2⟩ := I.dj b i true k a h hk
  subst e2
  exact n e1 j e
theorem fpBack_cases {ss : List (Option Nat)} {as' : List (M × D)} {fp' : Nat → List Addr} {b : Bool} {i : Nat} {a : Addr} (h : a ∈ fpBack fp ss as' fp' b i) : (∃ j : Nat, b = true ∧ ss[j]? = some (some i) ∧ a ∈ fp' j) ∨ (a ∈ fp b i ∧ (b = true → ∀ j : Nat, ss[j]? ≠ some (some i))) := by
  cases b with
  | false => exact .inr ⟨h, fun e => nomatch e⟩
  | true =>
    unfold fpBack at h
    cases e : ss.findIdx? (· == some i) with
    | some j =>
      simp only [e] at h
      cases ea : as'[j]? with
      | none =>
        rw [ea] at h
        cases h
      | some x =>
        rw [ea] at h
        exact .inl ⟨j, rfl, find_some e, h⟩
    | none =>
      simp only [e] at h
      exact .inr ⟨h, fun _ j => find_none e⟩
theorem fpBack_none {ss : List (Option Nat)} {as' : List (M × D)} {fp' : Nat → List Addr} {i : Nat} (e : ss.findIdx? (· == some i) = none) : fpBack fp ss as' fp' true i = fp true i := by
  unfold fpBack
  simp only [e]
theorem fpBack_some {ss : List (Option Nat)} {as' : List (M × D)} {fp' : Nat → List Addr} {i j : Nat} {a : M × D} (e : ss.findIdx? (· == some i) = some j) (ea : as'[j]? = some a) : fpBack fp ss as' fp' true i = fp' j := by
  unfold fpBack
  simp only [e, ea]
theorem fpBack_nil {ss : List (Option Nat)} {as' : List (M × D)} {fp' : Nat → List Addr} {i j : Nat} (e : ss.findIdx? (· == some i) = some j) (ea : as'[j]? = none) : fpBack fp ss as' fp' true i = [] := by
  unfold fpBack
  simp only [e, ea]
theorem backSl_none {ss : List (Option Nat)} {as' : List (M × D)} {i : Nat} {s : Sl} (e : ss.findIdx? (· == some i) = none) : backSl ss as' i s = s := by
  unfold backSl
  simp only [e]
theorem backSl_some {ss : List (Option Nat)} {as' : List (M × D)} {i j : Nat} {p : Option Nat} {m : M} {d : D} {a : M × D} (e : ss.findIdx? (· == some i) = some j) (ea : as'[j]? = some a) : backSl ss as' i (.va p m d) = .va p a.1 a.2 := by
  unfold backSl
  simp only [e, ea]
theorem backSl_nil {ss : List (Option Nat)} {as' : List (M × D)} {i j : Nat} {p : Option Nat} {m : M} {d : D} (e : ss.findIdx? (· == some i) = some j) (ea : as'[j]? = none) : backSl ss as' i (.va p m d) = .no := by
  unfold backSl
  simp only [e, ea]
theorem slotAt_some {k : Nat} {a : M × D} (h : slotAt ρ k = some a) : ∃ p, ρ.getD k .no = .va p a.1 a.2 := by
  unfold slotAt at h
  rw [List.getD_eq_getElem?_getD]
  split at h
  · rename_i p m d e
    rw [e]
    cases h
    exact ⟨p, rfl⟩
  · cases h
theorem allNone_get : ∀ {ss : List (Option Nat)}, allNone ss = true → ∀ (j k : Nat), ss[j]? ≠ some (some k)
  | [], h, j, k => by simp
  | none :: r, h, j, k => by
    cases j with
    | zero => simp
    | succ j => simpa using allNone_get (ss := r) h j k
  | some _ :: r, h, j, k => absurd h Bool.false_ne_true
/-- the state behind a call -/
theorem EIF.back {ss : List (Option Nat)} {vs : List V} {as' : List (M × D)} {F' : Addr → Prop} {H' : Hp} {fp' : Nat → List Addr} (I : EIF K G st ρ σ H F fp) (ap : apart ss = true)
    (hs : ∀ j k : Nat, ss[j]? = some (some k) → (∃ a, slotAt ρ k = some a) ∧ ∃ v, vs[j]? = some v ∧ σ[k]? = some (some v)) (b : Back K F (argFp fp ss) H vs as' F' fp' H') :
    EIF K G (FL.dims (allNone ss) st) (backs ρ ss as') σ H' F' (fpBack fp ss as' fp') := by
  have stay : ∀ {b : Bool} {i : Nat}, (b = true → ∀ j : Nat, ss[j]? ≠ some (some i)) → ∀ a ∈ fp b i, H' a = H a := fun {b' i} n a h => by
    obtain ⟨o, ho⟩ := I.there b' i a h
    rw [ho]
    exact b.mv.keep a o ho (I.notLent h n)
  have stF : Stays F H H' := fun a o f e => b.mv.keep a o e fun ⟨j, hj⟩ => by
    obtain ⟨k, _, hk⟩ := argFp_mem hj
    exact (I.nf true k a hk).1 f
  have I' := I.dims (allNone ss)
  refine ⟨fun i => ?_, fun j => ?_, fun b' i a h => ⟨?_, ?_⟩, fun b1 i1 b2 i2 a h1 h2 => ?_, fun a o h n => ?_, fun a h => b.mv.more a (I.f0 a h), fun a h => ?_, b.mv.lv, by simp [backs, I.len]⟩
  · rw [backs_get]
    have s := I.sl i
    cases e : ss.findIdx? (· == some i) with
    | none =>
      rw [backSl_none e, fpBack_none e]
      cases hr : ρ.getD i .no with
      | no =>
        rw [hr] at s
        exact s
      | xn a d C fs =>
        rw [hr] at s
        obtain ⟨h1, h2, gs, p⟩ := s
        exact ⟨h1, h2, gs, px_stab _ _ _ _ b.mv.more stF p⟩
      | va p m d =>
        rw [hr] at s
        obtain ⟨v, e1, x, y⟩ := s
        exact ⟨v, e1, RepO.mono b.mv.more stF m d v _ (stay fun _ j => find_none e) x, y⟩
    | some j =>
      obtain ⟨⟨a0, h0⟩, v', ev, es⟩ := hs j i (find_some e)
      obtain ⟨p, hr⟩ := slotAt_some h0
      rw [hr] at s ⊢
      obtain ⟨v, e1, x, y⟩ := s
      rw [es] at e1
      cases e1
      cases ea : as'[j]? with
      | none =>
        rw [backSl_nil e ea, fpBack_nil e ea]
        rfl
      | some a =>
        obtain ⟨w, ew, r⟩ := b.args j a ea
        rw [ev] at ew
        cases ew
        rw [backSl_some e ea, fpBack_some e ea]
        exact ⟨v', es, r, y⟩
  · have t := I'.ti j
    show TIOk K σ F' H' _ (fp false j)
    cases hr : (FL.dims (allNone ss) st).getD j .x with
    | t m d v =>
      rw [hr] at t
      exact RepO.mono b.mv.more stF m d v _ (stay fun e => nomatch e) t
    | s k v =>
      rw [hr] at t
      exact t
    | x =>
      rw [hr] at t
      exact t
    | w P =>
      rw [hr] at t
      exact ⟨t.1, t.2.1, t.2.1 _ _ _ _ b.mv.more stF t.2.2⟩
  · rcases fpBack_cases h with ⟨j, _, _, h1⟩ | ⟨h1, n⟩
    · exact (b.own j a h1).1
    · intro z
      rcases b.mv.new a z with z | z | z
      · exact (I.nf b' i a h1).1 z
      · obtain ⟨o, ho⟩ := I.there b' i a h1
        rw [ho] at z
        cases z
      · exact I.notLent h1 n z
  · rcases fpBack_cases h with ⟨j, _, _, h1⟩ | ⟨h1, _⟩
    · rcases (b.own j a h1).2 with z | ⟨j', z⟩
      · exact I.fresh z
      · obtain ⟨k, _, hk⟩ := argFp_mem z
        exact (I.nf true k a hk).2
    · exact (I.nf b' i a h1).2
  · have mixed : ∀ {b1 i1 b2 i2}, (∃ j : Nat, b1 = true ∧ ss[j]? = some (some i1) ∧ a ∈ fp' j) → (a ∈ fp b2 i2 ∧ (b2 = true → ∀ j : Nat, ss[j]? ≠ some (some i2))) → False := fun {b1 i1 b2 i2} ⟨j, e, hj, ha⟩ ⟨h2, n⟩ => by
      rcases (b.own j a ha).2 with z | ⟨j', z⟩
      · obtain ⟨o, ho⟩ := I.there b2 i2 a h2
        rw [ho] at z
        cases z
      · exact I.notLent h2 n ⟨j', z⟩
    rcases fpBack_cases h1 with x | x
    · rcases fpBack_cases h2 with y | y
      · obtain ⟨j, e, hj, ha⟩ := x
        obtain ⟨j', e', hj', ha'⟩ := y
        have ej := b.dj j j' a ha ha'
        subst ej
        rw [hj] at hj'
        cases hj'
        exact ⟨e.trans e'.symm, rfl⟩
      · exact (mixed x y).elim
    · rcases fpBack_cases h2 with y | y
      · exact (mixed y x).elim
      · exact I.dj b1 i1 b2 i2 a x.1 y.1
  · refine b.mv.keep a o (I.keep a o h n) fun ⟨j, hj⟩ => ?_
    obtain ⟨k, _, hk⟩ := argFp_mem hj
    rcases (I.nf true k a hk).2 with z | z
    · exact n z
    · rw [h] at z
      cases z
  · rcases b.mv.new a h with z | z | ⟨j, hj⟩
    · exact I.fo a z
    · exact .inr (I.fresh z).symm
    · obtain ⟨k, _, hk⟩ := argFp_mem hj
      exact .inr (I.nf true k a hk).2.symm
/-- .. and what it has handed back -/
theorem EIF.backPush {ss : List (Option Nat)} {as' : List (M × D)} {F' : Addr → Prop} {H' : Hp} {fp' : Nat → List Addr} {st' : List TI} {ρ' : List Sl} {m : M} {d : D} {v : V} {q : List Addr} (I : EIF K G st ρ σ H F fp)
    (J : EIF K G st' ρ' σ H' F' (fpBack fp ss as' fp')) (r : RepO K F' H' m d v q) (hq : ∀ a ∈ q, ¬ F' a ∧ (H a = none ∨ ∃ j, a ∈ argFp fp ss j) ∧ ∀ j, a ∉ fp' j) : EI K G (.t m d v :: st') ρ' σ H' := by
  refine ⟨F', _, J.push (t := .t m d v) r (fun a h => ⟨(hq a h).1, ?_⟩) fun a h b i h' => ?_⟩
  · rcases (hq a h).2.1 with z | ⟨j', z⟩
    · exact I.fresh z
    · obtain ⟨k, _, hk⟩ := argFp_mem z
      exact (I.nf true k a hk).2
  · rcases fpBack_cases h' with ⟨j, _, _, h1⟩ | ⟨h1, n⟩
    · exact (hq a h).2.2 j h1
    · rcases (hq a h).2.1 with z | z
      · obtain ⟨o, ho⟩ := I.there b i a h1
        rw [ho] at z
        cases z
      · exact I.notLent h1 n z
end
/-- f(..) by the promise -/
theorem callE_ok {K : PySem.W.Frag} {W : WX} {n : Nat} {f : List (M × D) → FO} {Ts : List Sl → AO} {σ : L2.St} {H : Hp} {Q : VK} {E : XK} (h : tE K W (callE f Ts) σ H Q) (hn : ∀ ρ p its ρ1, Ts ρ = .ok p its ρ1 → its.length = n)
    (hE : ∀ c d H', W c d σ H' → E c d H') : tA K W Ts σ H fun vs H1 => spF K n f vs H1 Q E := by
  obtain ⟨G, st, ρ, I, h⟩ := h
  refine ⟨G, st, ρ, I, AftA.bind h (Over.refl st) fun p its ρ1 ex h vs H1 hl I1 => ?_⟩
  cases el : lents ρ1 its with
  | none =>
    rw [el] at h
    exact h.elim
  | some as =>
    rw [el] at h
    obtain ⟨F, fp, I2⟩ := I1
    obtain ⟨l1, r1⟩ := lents_rep hl I2 el
    obtain ⟨fp1, I3, e1⟩ := EIF.popA hl I2
    cases ap : apart (its.map slotOf) with
    | false =>
      simp only [ap] at h
      exact h.elim
    | true =>
      simp only [ap, if_true] at h
      have eA : argFp fp (its.map slotOf) = argFp fp1 (its.map slotOf) := by
        funext j
        unfold argFp
        rw [e1]
      have hs : ∀ j k : Nat, (its.map slotOf)[j]? = some (some k) → (∃ a, slotAt ρ1 k = some a) ∧ ∃ v, vs[j]? = some v ∧ σ[k]? = some (some v) := fun j k e => by
        have hj : j < as.length := by
          have := (List.getElem?_eq_some_iff.mp e).1
          simp only [List.length_map] at this
          omega
        obtain ⟨v, ev, _, hk⟩ := r1 j as[j] (List.getElem?_eq_getElem hj)
        exact ⟨⟨_, (hk k e).1⟩, v, ev, (hk k e).2⟩
      refine ⟨hl.trans (hn ρ p its ρ1 ex), F, argFp fp1 (its.map slotOf), as, by rw [l1, hl]; exact hn ρ p its ρ1 ex, I3.lv, fun j a ea => ?_, fun j a ha => ?_, fun i j a h1 h2 => ?_, ?_⟩
      · obtain ⟨v, ev, r, _⟩ := r1 j a ea
        rw [← eA]
        exact ⟨v, ev, r⟩
      · obtain ⟨k, e, hk⟩ := argFp_mem ha
        refine ⟨?_, (I3.nf true k a hk).1⟩
        have := (List.getElem?_eq_some_iff.mp e).1
        simp only [List.length_map] at this
        rw [← hn ρ p its ρ1 ex]
        exact this
      · obtain ⟨k, e, hk⟩ := argFp_mem h1
        obtain ⟨k', e', hk'⟩ := argFp_mem h2
        have := (I3.dj true k true k' a hk hk').2
        subst this
        exact apart_inj ap e e'
      · cases ef : f as with
        | no =>
          rw [ef] at h
          exact h.elim
        | ret m d as' =>
          rw [ef] at h
          intro v H' F' q fp' b r hq
          have J := I3.back ap hs b
          rw [dims_dims] at J
          exact h v H' (I3.backPush J r hq)
        | exc C fs as' =>
          rw [ef] at h
          intro ad gs H' F' fp' b hf hx hr
          have J := (I3.back ap hs b).dims false
          have J' : ∃ f, EIF K G (FL.dims false st) (backs ρ1 (its.map slotOf) as') σ H' F' f := ⟨_, by simpa [dims_dims] using J⟩
          obtain ⟨f, J'⟩ := J'
          exact hE _ _ _ (h ad gs H' ⟨F', _, J'.push (t := .w _) (q := []) ⟨rfl, px_stab, hf, hx, hr⟩ (fun a m => nomatch m) fun a m => nomatch m⟩)
end FL

namespace FL
open PySem PySem.Spec PyProof.Rows L2
section
variable {X : Cx} {W : WX} {n k : Nat} {f : Addr} {fd : FuncData} {ps : List Str} {g : List (M × D) → FO} {x : Str} {p pos : Pos} {e : Expr} {es : List Expr} {Ts : List Sl → AO}
theorem fe_call (F : FnOk X.prog X.w X.K X.mg X.base (L2.CX X.prog X.w) k f fd ps (spF X.K n g)) (hr : Room k X.A) (hg : Gl X x) (hm : X.mg x = some (.ref f)) (hk : PySem.W.keepIn X.K (.ref f) = true) (hb : Binds X.K fd ps []) (tk : Takes X W)
    (ha : FA X W (e :: es) Ts) (hn : ∀ ρ p its ρ1, Ts ρ = .ok p its ρ1 → its.length = n) (hdb : (x == ("__debug__" : Str)) = false := by decide) (he : starEach (e :: es) X.env = (false, eval e X.env) :: starEach es X.env := by rfl)
    (hpl : (backTo pos (starEach es X.env)).any (·.1) = false := by rfl) : FE X W (.Call (.Name x p) (e :: es) [] pos) (callE g Ts) := by
  refine PE.imp (pe_callSD (E := WE W) F hr hg hm hk hb .nil (fun σ => passAt tk σ) ha hdb he hpl) fun σ H Q h => ?_
  have z := callE_ok (E := WE W σ) h hn fun _ _ _ h => h
  show tA X.K W Ts σ H fun vs H1 => spF X.K n g (vs ++ []) H1 Q (WE W σ)
  have e0 : (fun (vs : List V) (H1 : Hp) => spF X.K n g (vs ++ []) H1 Q (WE W σ)) = fun vs H1 => spF X.K n g vs H1 Q (WE W σ) := by
    funext vs H1
    rw [List.append_nil]
  rw [e0]
  exact z
theorem len_nil : ∀ ρ p its ρ1, nilA ρ = .ok p its ρ1 → its.length = 0 := fun ρ p its ρ1 h => by
  cases h
  rfl
theorem len_cons {T : List Sl → EO} {n : Nat} (h : ∀ ρ p its ρ1, Ts ρ = .ok p its ρ1 → its.length = n) : ∀ ρ p its ρ1, consA T Ts ρ = .ok p its ρ1 → its.length = n + 1 := fun ρ p its ρ1 e => by
  unfold consA at e
  cases et : T ρ with
  | no => rw [et] at e; cases e
  | ex C fs r => rw [et] at e; cases e
  | ok p1 k m d r =>
    rw [et] at e
    simp only [EO.bindA] at e
    cases es : Ts r with
    | no => rw [es] at e; cases e
    | ex C fs r => rw [es] at e; cases e
    | ok p2 its2 r2 =>
      rw [es] at e
      cases e
      simp [h _ _ _ _ es]
end
/-! ### statements -/
inductive SO where
  | nx (ρ : List Sl) | rt (m : M) (d : D) (ρ : List Sl) | bk (ρ : List Sl) | ct (ρ : List Sl)
  | ex (C : Addr) (fs : List (Str × D)) (ρ : List Sl)
  | no
def TI.dead : TI → TI
  | .t m d v => .t m d v
  | .w P => .w P
  | _ => .x
def dead (st : List TI) : List TI := st.map TI.dead
theorem dead_dim (t : TI) : t.dim.dead = t.dead := by cases t <;> rfl
theorem dead_dead (t : TI) : t.dead.dead = t.dead := by cases t <;> rfl
theorem deads_dims (p : Bool) (st : List TI) : dead (dims p st) = dead st := by
  cases p <;> simp [dead, dims, Function.comp_def, dead_dim]
theorem deads_dead (st : List TI) : dead (dead st) = dead st := by simp [dead, Function.comp_def, dead_dead]
def AftS (K : PySem.W.Frag) (W : WX) (G : Gh) (st : List TI) (E : Ends) : SO → Prop
  | .nx ρ => ∀ σ H, EI K G (dead st) ρ σ H → E.nx σ H
  | .rt m d ρ => ∀ v σ H, EI K G (.t m d v :: dead st) ρ σ H → E.rt v H
  | .bk ρ => ∀ σ H, EI K G (dead st) ρ σ H → E.bk σ H
  | .ct ρ => ∀ σ H, EI K G (dead st) ρ σ H → E.ct σ H
  | .ex C fs ρ => ∀ σ, AftX K W G (dead st) σ C fs ρ
  | .no => False
def tS (K : PySem.W.Frag) (W : WX) (T : List Sl → SO) : TS := fun E σ H => ∃ G st ρ, EI K G st ρ σ H ∧ AftS K W G st E (T ρ)
def FS (X : Cx) (W : WX) (s : Stmt) (T : List Sl → SO) : Prop := PS X s (tS X.K W T)
def FSs (X : Cx) (W : WX) (s : List Stmt) (T : List Sl → SO) : Prop := PSs X s (tS X.K W T)
theorem PS.imp {X : Cx} {s : Stmt} {t t' : TS} (h : PS X s t) (i : ∀ E σ H, t' E σ H → t E σ H) : PS X s t' := ⟨fun pins s σ H E I q => h.run pins s σ H E I (i E σ H q)⟩
theorem PSs.imp {X : Cx} {s : List Stmt} {t t' : TS} (h : PSs X s t) (i : ∀ E σ H, t' E σ H → t E σ H) : PSs X s t' := ⟨fun pins s σ H E I q => h.run pins s σ H E I (i E σ H q)⟩
def EO.bindS : EO → (f : Bool → RK → M → D → List Sl → SO) → KeepT f SO
  | .ok p k m d ρ, f => f p k m d ρ
  | .ex C fs ρ, _ => .ex C fs ρ
  | .no, _ => .no
def BO.bindS : BO → (f : Bool → List Sl → SO) → KeepT f SO
  | .ok _ b ρ, f => f b ρ
  | .ex C fs ρ, _ => .ex C fs ρ
  | .no, _ => .no
def SO.bind : SO → (f : List Sl → SO) → KeepT f SO
  | .nx ρ, f => f ρ
  | s, _ => s
section
variable {K : PySem.W.Frag} {W : WX} {G : Gh} {st st1 : List TI} {ρ : List Sl} {σ : L2.St} {H : Hp} {F : Addr → Prop} {fp : Bool → Nat → List Addr}
theorem EIF.dead (I : EIF K G st ρ σ H F fp) : EIF K G (FL.dead st) ρ σ H F fp := by
  refine ⟨I.sl, fun j => ?_, I.nf, I.dj, I.keep, I.f0, I.fo, I.lv, I.len⟩
  have t := I.ti j
  unfold FL.dead
  rw [List.getD_eq_getElem?_getD] at t ⊢
  rw [List.getElem?_map]
  cases q : st[j]? with
  | none =>
    rw [q] at t
    exact t
  | some u =>
    rw [q] at t
    cases u with
    | t m d v => exact t
    | s k v => exact t.1
    | w P => exact t
    | x => exact t
theorem EI.dead (I : EI K G st ρ σ H) : EI K G (FL.dead st) ρ σ H := by
  obtain ⟨F, fp, I⟩ := I
  exact ⟨F, fp, I.dead⟩
theorem EI.deadX {p : Bool} (I : EI K G (FL.dims p st) ρ σ H) : EI K G (FL.dead st) ρ σ H := by
  have := I.dead
  rw [deads_dims] at this
  exact this
theorem EI.deadW {p : Bool} {P : (Addr → Prop) → Hp → Prop} (I : EI K G (.w P :: FL.dims p st) ρ σ H) : EI K G (.w P :: FL.dead st) ρ σ H := by
  have := I.dead
  have e : FL.dead (.w P :: FL.dims p st) = .w P :: FL.dead st := by
    show _ :: FL.dead (FL.dims p st) = _
    rw [deads_dims]
    rfl
  rw [e] at this
  exact this
theorem dims_dead (p : Bool) (st : List TI) : FL.dims p (FL.dead st) = FL.dead st := by
  have e : ∀ t : TI, t.dead.dim = t.dead := fun t => by cases t <;> rfl
  cases p
  · simp [FL.dims, FL.dead, Function.comp_def, e]
  · rfl
theorem AftX.dead {C : Addr} {fs : List (Str × D)} (h : AftX K W G (FL.dead st) σ C fs ρ) (o : ∀ ρ σ H P, EI K G (.w P :: FL.dims false st1) ρ σ H → EI K G (.w P :: FL.dead st) ρ σ H) : AftX K W G st1 σ C fs ρ := fun a gs H I => h a gs H (by rw [dims_dead]; exact o _ _ _ _ I)
theorem Aft.bindS {x : EO} {f : Bool → RK → M → D → List Sl → SO} {E : Ends} {R : VK} (h : AftS K W G st E (x.bindS f)) (hk : ∀ p k m d ρ1, x = .ok p k m d ρ1 → AftS K W G st E (f p k m d ρ1) → ∀ v H1, EI K G (mkI k m d v :: FL.dims p st) ρ1 σ H1 → R v H1) : Aft K W G st σ R x := by
  cases x with
  | ok p k m d ρ1 => exact hk p k m d ρ1 rfl h
  | ex C fs ρ1 => exact (h σ).dead fun _ _ _ _ I => I.deadW
  | no => exact h
theorem AftB.bindS {x : BO} {f : Bool → List Sl → SO} {E : Ends} {R : Bool → Hp → Prop} (h : AftS K W G st E (x.bindS f)) (hk : ∀ p b ρ1, x = .ok p b ρ1 → AftS K W G st E (f b ρ1) → ∀ H1, EI K G (FL.dims p st) ρ1 σ H1 → R b H1) : AftB K W G st σ R x := by
  cases x with
  | ok p b ρ1 => exact hk p b ρ1 rfl h
  | ex C fs ρ1 => exact (h σ).dead fun _ _ _ _ I => I.deadW
  | no => exact h
/-- a statement's wish is the same, whatever looks there were -/
theorem AftS.of {E : Ends} {x : SO} (h : AftS K W G st E x) (e : FL.dead st1 = FL.dead st) : AftS K W G st1 E x := by
  cases x with
  | nx ρ => exact fun σ H I => h σ H (by rw [← e]; exact I)
  | rt m d ρ => exact fun v σ H I => h v σ H (by rw [← e]; exact I)
  | bk ρ => exact fun σ H I => h σ H (by rw [← e]; exact I)
  | ct ρ => exact fun σ H I => h σ H (by rw [← e]; exact I)
  | ex C fs ρ => exact fun σ => by rw [e]; exact h σ
  | no => exact h
/-- a slot is stored -/
theorem EIF.assign {m : M} {d : D} {v : V} {i : Nat} (I : EIF K G (.t m d v :: st) ρ σ H F fp) (hi : i < σ.length) : EI K G (FL.dead st) (ρ.set i (.va none m d)) (σ.set i (some v)) H := by
  have top : RepO K F H m d v (fp false 0) := I.ti 0
  have I2 := I.pop.dead
  have hρ : i < ρ.length := by rw [I.len]; exact hi
  refine ⟨F, fun b j => if b = true ∧ j = i then fp false 0 else popF fp b j, fun j => ?_, fun j => ?_, fun b j a h => ?_, fun b j b' j' a h h' => ?_, I.keep, I.f0, I.fo, I.lv, by rw [List.length_set, List.length_set]; exact I.len⟩
  · by_cases hj : j = i
    · subst hj
      rw [List.getD_eq_getElem?_getD, List.getElem?_set_self hρ, List.getElem?_set_self hi, if_pos ⟨rfl, rfl⟩]
      exact ⟨v, rfl, top, fun j e => nomatch e⟩
    · rw [List.getD_eq_getElem?_getD, List.getElem?_set_ne (Ne.symm hj), List.getElem?_set_ne (Ne.symm hj), ← List.getD_eq_getElem?_getD, if_neg (fun z => hj z.2)]
      exact I2.sl j
  · rw [if_neg (fun z => nomatch z.1)]
    have t := I2.ti j
    cases hr : (FL.dead st).getD j .x with
    | t m d v => rw [hr] at t; exact t
    | x => rw [hr] at t; exact t
    | w P => rw [hr] at t; exact t
    | s k v =>
      exfalso
      unfold FL.dead at hr
      rw [List.getD_eq_getElem?_getD, List.getElem?_map] at hr
      cases hx : st[j]? with
      | none => rw [hx] at hr; cases hr
      | some u => rw [hx] at hr; cases u <;> cases hr
  · split at h
    · exact I.nf false 0 a h
    · exact I2.nf b j a h
  · have pop0 : ∀ b j, a ∈ popF fp b j → a ∈ fp false 0 → False := fun b j x y => by
      cases b with
      | true =>
        have := (I.dj true j false 0 a x y).1
        cases this
      | false =>
        have := (I.dj false (j + 1) false 0 a x y).2
        cases this
    split at h
    · rename_i c
      split at h'
      · rename_i c'
        exact ⟨c.1.trans c'.1.symm, c.2.trans c'.2.symm⟩
      · exact (pop0 _ _ h' h).elim
    · split at h'
      · exact (pop0 _ _ h h').elim
      · exact I2.dj b j b' j' a h h'
end
def nextS : List Sl → SO := fun ρ => .nx ρ
def seqS (T U : List Sl → SO) : List Sl → SO := fun ρ => (T ρ).bind U
def dropS (T : List Sl → EO) : List Sl → SO := fun ρ => (T ρ).bindS fun _ _ _ _ ρ1 => .nx ρ1
/-- return: what is new or frozen, or what a slot of one's own holds -/
def retS (T : List Sl → EO) : List Sl → SO := fun ρ => (T ρ).bindS fun _ k m d ρ1 => match k with
  | .t => .rt m d ρ1
  | _ => .no
def setS (i : Nat) (T : List Sl → EO) : List Sl → SO := fun ρ => (T ρ).bindS fun _ k m d ρ1 => match k with
  | .t => if i < ρ1.length then .nx (ρ1.set i (.va none m d)) else .no
  | _ => .no
def ifS (c : List Sl → BO) (T U : List Sl → SO) : List Sl → SO := fun ρ => (c ρ).bindS fun b ρ1 => if b then T ρ1 else U ρ1
/-- a slot's object is taken out of the slot -/
def nameM (i : Nat) : List Sl → EO := fun ρ => match ρ[i]? with
  | some (.va none m d) => .ok false .t m d (ρ.set i .no)
  | _ => .no
section
variable {X : Cx} {W : WX} {e c : Expr} {s : Stmt} {ss a b : List Stmt} {T : List Sl → EO} {Ts Us : List Sl → SO} {Bc : List Sl → BO} {pos : Pos}
theorem fss_nil : FSs X W [] nextS := PSs.imp pss_nil fun E σ H ⟨G, st, ρ, I, h⟩ => h σ H I.dead
theorem seq_aux {K : PySem.W.Frag} {W : WX} {E : Ends} {σ : L2.St} {H : Hp} {T U : List Sl → SO} (h : tS K W (seqS T U) E σ H) : tSeq (tS K W T) (tS K W U) E σ H := by
  obtain ⟨G, st, ρ, I, h⟩ := h
  refine ⟨G, st, ρ, I, ?_⟩
  unfold seqS at h
  cases et : T ρ with
  | nx ρ1 =>
    rw [et] at h
    exact fun σ1 H1 I1 => ⟨G, _, ρ1, I1, AftS.of h (deads_dead st)⟩
  | rt m d ρ1 => rw [et] at h; exact h
  | bk ρ1 => rw [et] at h; exact h
  | ct ρ1 => rw [et] at h; exact h
  | ex C fs ρ1 => rw [et] at h; exact h
  | no => rw [et] at h; exact h
theorem fss_cons (h1 : FS X W s Ts) (h2 : FSs X W ss Us) : FSs X W (s :: ss) (seqS Ts Us) := PSs.imp (pss_cons h1 h2) fun _ _ _ h => seq_aux h
theorem fss_one (h1 : FS X W s Ts) : FSs X W [s] Ts := pss_one h1
theorem fs_pass : FS X W (.Pass pos) nextS := PS.imp ps_pass fun E σ H ⟨G, st, ρ, I, h⟩ => h σ H I.dead
theorem fs_break : FS X W (.Break pos) (fun ρ => .bk ρ) := PS.imp ps_break fun E σ H ⟨G, st, ρ, I, h⟩ => h σ H I.dead
theorem fs_continue : FS X W (.Continue pos) (fun ρ => .ct ρ) := PS.imp ps_continue fun E σ H ⟨G, st, ρ, I, h⟩ => h σ H I.dead
theorem fs_expr (he : FE X W e T) (hs : swapsWith e none pos.line X.env = pure false := by rfl) : FS X W (.Expr e pos) (dropS T) :=
  PS.imp (ps_expr he hs) fun E σ H ⟨G, st, ρ, I, h⟩ => ⟨G, st, ρ, I, Aft.bindS h fun p k m d ρ1 ex h v H1 I1 => h σ H1 (by have := I1.pop; exact this.deadX)⟩
theorem fs_ret (he : FE X W e T) : FS X W (.Return (some e) pos) (retS T) :=
  PS.imp (ps_ret he) fun E σ H ⟨G, st, ρ, I, h⟩ => ⟨G, st, ρ, I, Aft.bindS h fun p k m d ρ1 ex h v H1 I1 => by
    cases k with
    | t =>
      refine h v σ H1 ?_
      have := I1.dead
      unfold FL.dead at this
      rw [List.map_cons] at this
      have e := deads_dims p st
      unfold FL.dead at e
      rw [e] at this
      exact this
    | s k => exact h.elim
    | w => exact h.elim⟩
theorem fs_retN : FS X W (.Return none pos) (fun ρ => .rt .f .non ρ) :=
  PS.imp ps_retN fun E σ H ⟨G, st, ρ, I, h⟩ => by
    obtain ⟨F, fp, I⟩ := I.dead
    refine h .non σ H (I.pushNew (q := []) (Ext.refl F H I.lv) ?_ fun a m => nomatch m)
    unfold RepO Rep
    exact ⟨rfl, rfl⟩
theorem set_aux {K : PySem.W.Frag} {i : Nat} {E : Ends} {σ : L2.St} {H : Hp} (h : tS K W (setS i T) E σ H) : tAsg (tE K W T) (gName i) E σ H := by
  obtain ⟨G, st, ρ, I, h⟩ := h
  refine ⟨G, st, ρ, I, Aft.bindS h fun p k m d ρ1 ex h v H1 I1 => ?_⟩
  cases k with
  | t =>
    by_cases hi : i < ρ1.length
    · simp only [if_pos hi] at h
      obtain ⟨F, fp, I2⟩ := I1
      have := I2.assign (i := i) (by rw [← I2.len]; exact hi)
      rw [deads_dims] at this
      exact h _ _ this
    · simp only [if_neg hi] at h
      exact h.elim
  | s k => exact h.elim
  | w => exact h.elim
theorem fs_set {i : Nat} {x : Str} {pos' : Pos} (hN : X.N.Nodup) (hi : X.N[i]? = some x) (hx : Loc X.env.scope x) (he : FE X W e T) (hs : swapsWith e (some (.Name x pos')) pos.line X.env = pure false := by rfl) (hf : X.fn x = true ∨ X.env.scope.names.lookup x = some .local := by first | exact .inl rfl | exact .inr rfl | assumption) :
    FS X W (.Assign [.Name x pos'] e pos) (setS i T) := PS.imp (ps_set hN hi hx he hs hf) fun _ _ _ h => set_aux h
theorem fs_if {c : Expr} (hc : FT X W c Bc) (ha : FSs X W a Ts) (hb : FSs X W b Us) : FS X W (.If c a b pos) (ifS Bc Ts Us) :=
  PS.imp (ps_if hc ha hb) fun E σ H ⟨G, st, ρ, I, h⟩ => ⟨G, st, ρ, I, AftB.bindS h fun p b ρ1 ex h H1 I1 => by
    cases b with
    | true =>
      rw [if_pos rfl] at h ⊢
      exact ⟨G, _, ρ1, I1, AftS.of h (deads_dims p st)⟩
    | false =>
      rw [if_neg Bool.false_ne_true] at h ⊢
      exact ⟨G, _, ρ1, I1, AftS.of h (deads_dims p st)⟩⟩
theorem fe_nameM {i : Nat} (h : PE X e (tVar i)) : FE X W e (nameM i) := by
  refine PE.imp h fun σ H Q ⟨G, st, ρ, I, h⟩ => ?_
  unfold nameM at h
  cases q : ρ[i]? with
  | none =>
    rw [q] at h
    exact h.elim
  | some s =>
    rw [q] at h
    cases s with
    | no => exact h.elim
    | xn a d C fs => exact h.elim
    | va p m d =>
      cases p with
      | some j => exact h.elim
      | none =>
        obtain ⟨F, fp, I⟩ := I
        have hlt := (List.getElem?_eq_some_iff.mp q).1
        have here := I.sl i
        rw [List.getD_eq_getElem?_getD, q] at here
        obtain ⟨v, ev, r, _⟩ := here
        refine ⟨v, ev, h v H ?_⟩
        have J : EIF X.K G st (ρ.set i .no) σ H F (setF fp true i []) := by
          have at_ : ∀ b j a, a ∈ setF fp true i [] b j → a ∈ fp b j ∧ ¬ (b = true ∧ j = i) := fun b j a h => by
            unfold setF at h
            split at h
            · cases h
            · exact ⟨h, by assumption⟩
          refine ⟨fun j => ?_, fun j => ?_, fun b j a h => I.nf b j a (at_ _ _ _ h).1, fun b j b' i' a h h' => I.dj b j b' i' a (at_ _ _ _ h).1 (at_ _ _ _ h').1, I.keep, I.f0, I.fo, I.lv, by rw [List.length_set]; exact I.len⟩
          · by_cases hj : j = i
            · subst hj
              have e : setF fp true j [] true j = [] := by simp [setF]
              rw [e, List.getD_eq_getElem?_getD, List.getElem?_set_self hlt]
              rfl
            · have e : setF fp true i [] true j = fp true j := by simp [setF, hj]
              rw [e, List.getD_eq_getElem?_getD, List.getElem?_set_ne (Ne.symm hj), ← List.getD_eq_getElem?_getD]
              exact I.sl j
          · have e : setF fp true i [] false j = fp false j := by simp [setF]
            rw [e]
            exact I.ti j
        refine (show EI X.K G (.t m d v :: FL.dims false st) (ρ.set i .no) σ H from ⟨F, _, (J.dims false).push (t := .t m d v) (q := fp true i) r (fun a h => I.nf true i a h) fun a h b j h' => ?_⟩)
        unfold setF at h'
        split at h'
        · cases h'
        · rename_i c
          have := I.dj b j true i a h' h
          exact c this
end
end FL

namespace FL
open PySem PySem.Spec PyProof.Rows L2
/-! ### a def by its body -/
def initSl : Nat → List (M × D) → List Sl
  | _, [] => []
  | j, a :: r => .va (some j) a.1 a.2 :: initSl (j + 1) r
def outAt (ρ : List Sl) (j : Nat) (a : M × D) : Option (M × D) := match ρ[j]? with
  | some (.va (some j') m d) => if j' = j then some (m, d) else (match a.1 with
    | .f => some a
    | _ => none)
  | _ => match a.1 with
    | .f => some a
    | _ => none
def outsF (ρ : List Sl) : Nat → List (M × D) → Option (List (M × D))
  | _, [] => some []
  | j, a :: r => (outAt ρ j a).bind fun b => (outsF ρ (j + 1) r).map (b :: ·)
def bodyF (N : Nat) (T : List Sl → SO) (as : List (M × D)) : FO := match T (initSl 0 as ++ List.replicate (N - as.length) .no) with
  | .rt m d ρ => (match outsF ρ 0 as with
    | some as' => .ret m d as'
    | none => .no)
  | .nx ρ => (match outsF ρ 0 as with
    | some as' => .ret .f .non as'
    | none => .no)
  | .ex C fs ρ => (match outsF ρ 0 as with
    | some as' => .exc C fs as'
    | none => .no)
  | _ => .no
theorem initSl_get : ∀ (as : List (M × D)) (j i : Nat), (initSl j as)[i]? = as[i]?.map fun a => Sl.va (some (j + i)) a.1 a.2
  | [], j, i => by simp [initSl]
  | a :: r, j, 0 => by simp [initSl]
  | a :: r, j, i + 1 => by
    simp only [initSl, List.getElem?_cons_succ]
    rw [initSl_get r (j + 1) i]
    congr 1
    funext a
    congr 2
    omega
theorem initSl_len : ∀ (as : List (M × D)) (j : Nat), (initSl j as).length = as.length
  | [], j => rfl
  | a :: r, j => by simp [initSl, initSl_len r]
theorem outsF_get {ρ : List Sl} : ∀ {as as' : List (M × D)} {j : Nat}, outsF ρ j as = some as' → as'.length = as.length ∧ ∀ (i : Nat) a', as'[i]? = some a' → ∃ a, as[i]? = some a ∧ outAt ρ (j + i) a = some a'
  | [], as', j, h => by
    cases h
    exact ⟨rfl, fun i a' e => by simp at e⟩
  | a :: r, as', j, h => by
    obtain ⟨b, eb, h⟩ := Option.bind_eq_some_iff.mp h
    obtain ⟨t, et, rfl⟩ := Option.map_eq_some_iff.mp h
    obtain ⟨l, g⟩ := outsF_get et
    refine ⟨by simp [l], fun i a' e => ?_⟩
    cases i with
    | zero =>
      simp only [List.getElem?_cons_zero, Option.some.injEq] at e
      subst e
      exact ⟨a, rfl, eb⟩
    | succ i =>
      simp only [List.getElem?_cons_succ] at e
      obtain ⟨a0, e0, o⟩ := g i a' e
      refine ⟨a0, by simpa using e0, ?_⟩
      have : j + 1 + i = j + (i + 1) := by omega
      rw [this] at o
      exact o
section
variable {K : PySem.W.Frag} {W : WX} {G : Gh} {st : List TI} {ρ : List Sl} {σ : L2.St} {H : Hp} {F : Addr → Prop} {fp : Bool → Nat → List Addr}
def outFp (fp : Bool → Nat → List Addr) (ρ : List Sl) (j : Nat) : List Addr := match ρ[j]? with
  | some (.va (some j') _ _) => if j' = j then fp true j else []
  | _ => []
theorem outFp_mem {j : Nat} {a : Addr} (h : a ∈ outFp fp ρ j) : a ∈ fp true j := by
  unfold outFp at h
  split at h
  · split at h
    · exact h
    · cases h
  · cases h
/-- the end of a body: what the caller gets back -/
theorem EIF.finish {F0 : Addr → Prop} {fp0 : Nat → List Addr} {H0 : Hp} {vs : List V} {as as' : List (M × D)} (I : EIF K ⟨H0, F0, fun a => ∃ j, a ∈ fp0 j, vs⟩ st ρ σ H F fp) (h0 : ArgsOk K F0 H0 vs as fp0)
    (nf : ∀ j a, a ∈ fp0 j → ¬ F0 a) (ho : outsF ρ 0 as = some as') : Back K F0 fp0 H0 vs as' F (outFp fp ρ) H where
  mv := ⟨I.keep, I.f0, fun a h => I.fo a h, I.lv⟩
  args := fun j a' e => by
    obtain ⟨l, g⟩ := outsF_get ho
    obtain ⟨a, ea, oa⟩ := g j a' e
    rw [Nat.zero_add] at oa
    obtain ⟨v, ev, r⟩ := h0 j a ea
    have old : a.1 = .f → RepO K F H a.1 a.2 v [] := fun ef => by
      rw [ef] at r ⊢
      unfold RepO at r ⊢
      exact ⟨rfl, Rep.mono (fun a h => I.f0 a h) (fun b o hb e => I.keep b o e fun ⟨j, hj⟩ => nf j b hj hb) _ _ r.2⟩
    refine ⟨v, ev, ?_⟩
    unfold outAt at oa
    unfold outFp
    cases q : ρ[j]? with
    | none =>
      rw [q] at oa
      cases em : a.1 with
      | f =>
        simp only [em, Option.some.injEq] at oa
        subst oa
        exact old em
      | o c => simp [em] at oa
      | r ms => simp [em] at oa
    | some s =>
      rw [q] at oa
      cases s with
      | no =>
        cases em : a.1 with
        | f =>
          simp only [em, Option.some.injEq] at oa
          subst oa
          exact old em
        | o c => simp [em] at oa
        | r ms => simp [em] at oa
      | xn b d C fs =>
        cases em : a.1 with
        | f =>
          simp only [em, Option.some.injEq] at oa
          subst oa
          exact old em
        | o c => simp [em] at oa
        | r ms => simp [em] at oa
      | va p m d =>
        cases p with
        | none =>
          cases em : a.1 with
          | f =>
            simp only [em, Option.some.injEq] at oa
            subst oa
            exact old em
          | o c => simp [em] at oa
          | r ms => simp [em] at oa
        | some j' =>
          by_cases hj : j' = j
          · simp only [if_pos hj, Option.some.injEq] at oa ⊢
            subst oa
            have s := I.sl j
            rw [List.getD_eq_getElem?_getD, q] at s
            obtain ⟨w, ew, rw', hp⟩ := s
            have := hp j' rfl
            rw [hj] at this
            have this : vs[j]? = some w := this
            rw [ev] at this
            cases this
            exact rw'
          · simp only [if_neg hj] at oa ⊢
            cases em : a.1 with
            | f =>
              simp only [em, Option.some.injEq] at oa
              subst oa
              exact old em
            | o c => simp [em] at oa
            | r ms => simp [em] at oa
  own := fun j a h => ⟨(I.nf true j a (outFp_mem h)).1, (I.nf true j a (outFp_mem h)).2.symm⟩
  dj := fun i j a h1 h2 => (I.dj true i true j a (outFp_mem h1) (outFp_mem h2)).2
theorem body_run {n N : Nat} {T : List Sl → SO} {vs : List V} {Q : VK} {E : XK} {Ns : List Str} (hN : Ns.length = N) (h : spF K n (bodyF N T) vs H Q E) (hn : n ≤ N) : tS K (fun cls d _ H => E cls d H) T { nx := fun _ H' => Q .non H', rt := Q } (L2.start Ns vs) H := by
  obtain ⟨hl, F, fp, as, la, lv, ha, hf, dj, post⟩ := h
  have len1 : (initSl 0 as ++ List.replicate (N - as.length) Sl.no).length = (L2.start Ns vs).length := by
    unfold L2.start
    simp [initSl_len, la, hl, hN]
  have I : EIF K ⟨H, F, fun a => ∃ j, a ∈ fp j, vs⟩ [] (initSl 0 as ++ List.replicate (N - as.length) .no) (L2.start Ns vs) H F (fun b j => if b = true then fp j else []) := by
    refine ⟨fun i => ?_, fun j => ?_, fun b i a h => ?_, fun b i b' i' a h h' => ?_, fun a o h _ => h, fun a h => h, fun a h => .inl h, lv, len1⟩
    · rw [if_pos rfl]
      by_cases hi : i < n
      · have e1 : as[i]? = some as[i] := List.getElem?_eq_getElem (by omega)
        obtain ⟨v, ev, r⟩ := ha i _ e1
        rw [List.getD_eq_getElem?_getD, List.getElem?_append_left (by rw [initSl_len]; omega), initSl_get, e1]
        refine ⟨v, ?_, r, fun j e => ?_⟩
        · unfold L2.start
          rw [List.getElem?_append_left (by simp; omega), List.getElem?_map, ev]
          rfl
        · cases e
          rw [Nat.zero_add]
          exact ev
      · have e0 : fp i = [] := List.eq_nil_iff_forall_not_mem.mpr fun a m => hi (hf i a m).1
        rw [e0, List.getD_eq_getElem?_getD, List.getElem?_append_right (by rw [initSl_len]; omega), List.getElem?_replicate]
        split <;> rfl
    · show TIOk K _ F H ([].getD j .x) (if false = true then fp j else [])
      rw [if_neg Bool.false_ne_true]
      cases j <;> rfl
    · cases b with
      | false =>
        rw [if_neg Bool.false_ne_true] at h
        cases h
      | true =>
        rw [if_pos rfl] at h
        exact ⟨(hf i a h).2, .inl ⟨i, h⟩⟩
    · cases b with
      | false =>
        rw [if_neg Bool.false_ne_true] at h
        cases h
      | true =>
        cases b' with
        | false =>
          rw [if_neg Bool.false_ne_true] at h'
          cases h'
        | true =>
          rw [if_pos rfl] at h h'
          exact ⟨rfl, dj i i' a h h'⟩
  refine ⟨_, _, _, ⟨F, _, I⟩, ?_⟩
  unfold bodyF at post
  cases et : T (initSl 0 as ++ List.replicate (N - as.length) .no) with
  | rt m d ρ =>
    rw [et] at post
    intro v σ1 H1 ⟨F1, fp1, I1⟩
    cases eo : outsF ρ 0 as with
    | none =>
      simp only [eo] at post
      exact post.elim
    | some as' =>
      simp only [eo] at post
      have b := I1.finish ha (fun j a h => (hf j a h).2) eo
      have top : RepO K F1 H1 m d v (fp1 false 0) := I1.ti 0
      refine post v H1 F1 _ _ b top fun a h => ⟨(I1.nf false 0 a h).1, (I1.nf false 0 a h).2.symm, fun j hj => ?_⟩
      have := (I1.dj false 0 true j a h (outFp_mem hj)).1
      cases this
  | nx ρ =>
    rw [et] at post
    intro σ1 H1 ⟨F1, fp1, I1⟩
    cases eo : outsF ρ 0 as with
    | none =>
      simp only [eo] at post
      exact post.elim
    | some as' =>
      simp only [eo] at post
      refine post .non H1 F1 [] _ (I1.finish ha (fun j a h => (hf j a h).2) eo) ?_ fun a h => nomatch h
      unfold RepO Rep
      exact ⟨rfl, rfl⟩
  | ex C fs ρ =>
    rw [et] at post
    intro σ1 ad gs H1 ⟨F1, fp1, I0⟩
    obtain ⟨_, _, hff, hx, hr⟩ := I0.ti 0
    have I1 := I0.pop
    cases eo : outsF ρ 0 as with
    | none =>
      simp only [eo] at post
      exact post.elim
    | some as' =>
      simp only [eo] at post
      exact post ad gs H1 F1 _ (I1.finish ha (fun j a h => (hf j a h).2) eo) hff hx hr
  | bk ρ => rw [et] at post; exact post.elim
  | ct ρ => rw [et] at post; exact post.elim
  | no => rw [et] at post; exact post.elim
end
section
variable {P : Program} {w : World} {K : PySem.W.Frag} {mg : Str → Option Value} {base : Heap}
theorem spF_len {n : Nat} {f : List (M × D) → FO} : ∀ vs H Q E, spF K n f vs H Q E → vs.length = n := fun _ _ _ _ h => h.1
/-- THE RULE for a def -/
theorem fn_okF {x qual : Str} {st : Stmt} {f : Addr} {fd : FuncData} {N ps : List Str} {k : Nat} {T : List Sl → SO} (Fn : Fun K x qual st f fd) (S : FnScope N ps (defScope st))
    (hb : ∀ (cdv : Value) (A : Around) (outer : List Env) (s : Shared) (H : Hp) (E : XK), Room k (A.deeper (envOfC qual (defScope st) s.heap.objs.size f cdv)) →
      FSs (cxOf (L2.CX P w) P w K mg base N qual (defScope st) f cdv A outer s H E) (fun cls d _ H => E cls d H) (defBody st) T) :
    FnOk P w K mg base (L2.CX P w) (k + 1) f fd ps (spF K ps.length (bodyF N.length T)) := by
  have hpl : ps.length ≤ N.length := by
    have := congrArg List.length S.pre
    rw [List.length_take] at this
    omega
  refine Fn.okX S (fun vs H Q E h => h.1) fun cdv A outer s H vs Q E hr h => ⟨_, hb cdv A outer s H E hr, body_run rfl h hpl⟩
end
/-- a promise by another function, where they agree -/
theorem FnOk.asF {P : Program} {w : World} {K : PySem.W.Frag} {mg : Str → Option Value} {base : Heap} {CX : CXT} {k : Nat} {f : Addr} {fd : FuncData} {ps : List Str} {n : Nat} {g g' : List (M × D) → FO} (F : FnOk P w K mg base CX k f fd ps (spF K n g))
    (h : ∀ as, as.length = n → g' as ≠ .no → g as = g' as) : FnOk P w K mg base CX k f fd ps (spF K n g') := by
  refine FnOk.imp F fun vs H Q E ⟨hl, F, fp, as, la, lv, ha, hf, dj, post⟩ => ⟨hl, F, fp, as, la, lv, ha, hf, dj, ?_⟩
  rw [h as la (fun e => by rw [e] at post; exact post)]
  exact post
end FL

namespace FL
open PySem PySem.Spec PyProof.Rows L2
/-! ### targets: S, the slots that they store -/
def Off (S : List Nat) (σ σ' : L2.St) : Prop := σ'.length = σ.length ∧ ∀ k, k ∉ S → σ'[k]? = σ[k]?
theorem Off.refl (S : List Nat) (σ : L2.St) : Off S σ σ := ⟨rfl, fun _ _ => rfl⟩
theorem Off.trans {S : List Nat} {a b c : L2.St} (x : Off S a b) (y : Off S b c) : Off S a c := ⟨y.1.trans x.1, fun k h => (y.2 k h).trans (x.2 k h)⟩
theorem Off.mono {S S' : List Nat} {a b : L2.St} (x : Off S a b) (h : ∀ k ∈ S, k ∈ S') : Off S' a b := ⟨x.1, fun k n => x.2 k fun m => n (h k m)⟩
def tG (K : PySem.W.Frag) (S : List Nat) (T : D → List Sl → Option (List Sl)) : TG := fun v σ H Q => ∃ G st ρ d, EI K G (.t .f d v :: st) ρ σ H ∧ ∃ ρ', T d ρ = some ρ' ∧ ∀ σ', Off S σ σ' → EI K G (dead st) ρ' σ' H → Q σ' H
def zipT (ds : List D) (vs : List V) : List TI := List.zipWith (fun d v => TI.t .f d v) ds vs
def tGs (K : PySem.W.Frag) (S : List Nat) (T : List D → List Sl → Option (List Sl)) : TGs := fun vs σ H Q => ∃ G st ρ ds, ds.length = vs.length ∧ EI K G (zipT ds vs ++ st) ρ σ H ∧ ∃ ρ', T ds ρ = some ρ' ∧ ∀ σ', Off S σ σ' → EI K G (dead st) ρ' σ' H → Q σ' H
def FG (X : Cx) (S : List Nat) (tg : Expr) (T : D → List Sl → Option (List Sl)) : Prop := PG X tg (tG X.K S T)
def FGs (X : Cx) (S : List Nat) (tgs : List Expr) (T : List D → List Sl → Option (List Sl)) : Prop := PGs X tgs (tGs X.K S T)
theorem PG.imp {X : Cx} {tg : Expr} {t t' : TG} (h : PG X tg t) (i : ∀ v σ H Q, t' v σ H Q → t v σ H Q) : PG X tg t' := ⟨fun pins s σ H v u Q I r q => h.run pins s σ H v u Q I r (i v σ H Q q)⟩
theorem PGs.imp {X : Cx} {tg : List Expr} {t t' : TGs} (h : PGs X tg t) (i : ∀ v σ H Q, t' v σ H Q → t v σ H Q) : PGs X tg t' := ⟨fun pins s σ H v u Q I r q => h.run pins s σ H v u Q I r (i v σ H Q q)⟩
def putG (i : Nat) : D → List Sl → Option (List Sl) := fun d ρ => if i < ρ.length then some (ρ.set i (.va none .f d)) else none
def nilG : List D → List Sl → Option (List Sl)
  | [], ρ => some ρ
  | _, _ => none
def consG (T : D → List Sl → Option (List Sl)) (Ts : List D → List Sl → Option (List Sl)) : List D → List Sl → Option (List Sl)
  | d :: ds, ρ => (T d ρ).bind (Ts ds)
  | [], _ => none
def tupG (n : Nat) (Ts : List D → List Sl → Option (List Sl)) : D → List Sl → Option (List Sl)
  | .tup ds, ρ => if ds.length = n then Ts ds ρ else none
  | _, _ => none
section
variable {K : PySem.W.Frag} {G : Gh} {st : List TI} {ρ : List Sl} {σ : L2.St} {H : Hp} {F : Addr → Prop} {fp : Bool → Nat → List Addr}
/-- the parts of a frozen thing, held -/
theorem EIF.parts : ∀ {ds : List D} {vs : List V} {fp : Bool → Nat → List Addr}, RepL K F H ds vs → EIF K G st ρ σ H F fp → EI K G (zipT ds vs ++ st) ρ σ H
  | [], vs, fp, r, I => by
    unfold RepL at r
    subst r
    exact ⟨F, fp, I⟩
  | d :: ds, vs, fp, r, I => by
    unfold RepL at r
    obtain ⟨v, t, rfl, x, y⟩ := r
    obtain ⟨F1, fp1, I1⟩ := EIF.parts y I
    have key : ∀ {ds : List D} {vs : List V} {fp : Bool → Nat → List Addr}, RepL K F H ds vs → EIF K G st ρ σ H F fp → ∃ fp', EIF K G (zipT ds vs ++ st) ρ σ H F fp' := by
      intro ds
      induction ds with
      | nil =>
        intro vs fp r I
        unfold RepL at r
        subst r
        exact ⟨fp, I⟩
      | cons d ds ih =>
        intro vs fp r I
        unfold RepL at r
        obtain ⟨v, t, rfl, x, y⟩ := r
        obtain ⟨fp1, I1⟩ := ih y I
        refine ⟨_, I1.push (t := .t .f d v) (q := []) ?_ (fun a m => nomatch m) fun a m => nomatch m⟩
        show RepO K F H .f d v []
        unfold RepO
        exact ⟨rfl, x⟩
    obtain ⟨fp2, I2⟩ := key y I
    refine ⟨F, _, I2.push (t := .t .f d v) (q := []) ?_ (fun a m => nomatch m) fun a m => nomatch m⟩
    show RepO K F H .f d v []
    unfold RepO
    exact ⟨rfl, x⟩
theorem zipT_dead (ds : List D) (vs : List V) (st : List TI) : dead (zipT ds vs ++ st) = zipT ds vs ++ dead st := by
  unfold dead zipT
  rw [List.map_append]
  congr 1
  induction ds generalizing vs with
  | nil => rfl
  | cons d ds ih =>
    cases vs with
    | nil => rfl
    | cons v vs => simp [List.zipWith, ih, TI.dead]
end
section
variable {X : Cx} {S S1 S2 : List Nat} {tg : Expr} {tgs : List Expr} {T : D → List Sl → Option (List Sl)} {Ts : List D → List Sl → Option (List Sl)} {pos : Pos}
theorem fg_name {i : Nat} {x : Str} (hN : X.N.Nodup) (hi : X.N[i]? = some x) (hx : Loc X.env.scope x) (hf : X.fn x = true ∨ X.env.scope.names.lookup x = some .local := by first | exact .inl rfl | exact .inr rfl | assumption) : FG X [i] (.Name x pos) (putG i) := by
  refine PG.imp (pg_name hN hi hx hf) fun v σ H Q ⟨G, st, ρ, d, I, ρ', e, h⟩ => ?_
  unfold putG at e
  split at e
  · rename_i hlt
    cases e
    obtain ⟨F, fp, I⟩ := I
    exact h _ ⟨by simp, fun k n => List.getElem?_set_ne (fun e => n (by simp [e]))⟩ (I.assign (by rw [← I.len]; exact hlt))
  · cases e
theorem fgs_nil : FGs X [] [] nilG := by
  refine PGs.imp pgs_nil fun vs σ H Q ⟨G, st, ρ, ds, l, I, ρ', e, h⟩ => ?_
  cases ds with
  | cons => cases e
  | nil =>
    cases vs with
    | cons => simp at l
    | nil =>
      cases e
      exact ⟨rfl, h σ (Off.refl _ _) (by have := I.dead; exact this)⟩
theorem fgs_cons (h1 : FG X S1 tg T) (h2 : FGs X S2 tgs Ts) (hs : (assignEach (tg :: tgs) X.env).map (·.2) = assign tg X.env :: (assignEach tgs X.env).map (·.2) := by rfl) : FGs X (S1 ++ S2) (tg :: tgs) (consG T Ts) := by
  refine PGs.imp (pgs_cons h1 h2 hs) fun vs σ H Q ⟨G, st, ρ, ds, l, I, ρ', e, h⟩ => ?_
  cases ds with
  | nil => cases e
  | cons d ds =>
    cases vs with
    | nil => simp at l
    | cons v vs =>
      obtain ⟨ρ1, e1, e2⟩ := Option.bind_eq_some_iff.mp e
      refine ⟨v, vs, rfl, G, zipT ds vs ++ st, ρ, d, I, ρ1, e1, fun σ1 o1 I1 => ?_⟩
      rw [zipT_dead] at I1
      refine ⟨G, dead st, ρ1, ds, by simpa using l, I1, ρ', e2, fun σ2 o2 I2 => ?_⟩
      rw [deads_dead] at I2
      exact h σ2 ((o1.mono fun k m => List.mem_append_left _ m).trans (o2.mono fun k m => List.mem_append_right _ m)) I2
theorem fg_tup {es : List Expr} {k n : Nat} (hc : X.calm = true) (h : FGs X S es Ts) (hn : (assignEach es X.env).length = n := by rfl) (hst : (assignEach es X.env).findIdx? (·.1) = none := by rfl) : FG X S (.Tuple es k pos) (tupG n Ts) := by
  refine PG.imp (pg_tup hc h hn hst) fun v σ H Q ⟨G, st, ρ, d, I, ρ', e, h⟩ => ?_
  cases d with
  | tup ds =>
    simp only [tupG] at e
    split at e
    · rename_i hl
      obtain ⟨F, fp, I⟩ := I
      have t : RepO X.K F H .f (.tup ds) v _ := I.ti 0
      unfold RepO Rep at t
      obtain ⟨_, a, vs, rfl, ta, r⟩ := t
      exact ⟨a, vs, rfl, ta.sq, by rw [← r.len]; exact hl, G, st, ρ, ds, r.len, EIF.parts r I.pop, ρ', e, h⟩
    · cases e
  | _ => cases e
end
/-! ### what a loop walks -/
inductive IO where
  | ok (p : Bool) (ds : List D) (ρ : List Sl)
  | ex (C : Addr) (fs : List (Str × D)) (ρ : List Sl)
  | no
/-- J yields the data ds, as long as t is held -/
structure Yields (K : PySem.W.Frag) (J : It) (t : TI) (ds : List D) : Prop where
  go : ∀ G st ρ σ H i d, EI K G (t :: st) ρ σ H → ds[i]? = some d → J.go i H ∧ ∀ x H', J.yld i H x H' → EI K G (.t .f d x :: t :: st) ρ σ H'
  stop : ∀ G st ρ σ H, EI K G (t :: st) ρ σ H → J.stop ds.length H
  keeps : t.dead = t
def tI (K : PySem.W.Frag) (W : WX) (T : List Sl → IO) : L2.TI := fun σ H R => ∃ G st ρ, EI K G st ρ σ H ∧ match T ρ with
  | .ok p ds ρ1 => ∀ J t H1, EI K G (t :: dims p st) ρ1 σ H1 → Yields K J t ds → R J H1
  | .ex C fs ρ1 => AftX K W G st σ C fs ρ1
  | .no => False
def FI (X : Cx) (W : WX) (tg iter : Expr) (T : List Sl → IO) : Prop := PI X tg iter (tI X.K W T)
theorem PI.imp {X : Cx} {tg e : Expr} {t t' : L2.TI} (h : PI X tg e t) (i : ∀ σ H R, t' σ H R → t σ H R) : PI X tg e t' := ⟨fun pins s σ H R I q => h.run pins s σ H R I (i σ H R q)⟩
def loopS (tg : D → List Sl → Option (List Sl)) (body : List Sl → SO) : List D → List Sl → SO
  | [], ρ => .nx ρ
  | d :: ds, ρ => match tg d ρ with
    | none => .no
    | some ρ1 => match body ρ1 with
      | .nx ρ2 => loopS tg body ds ρ2
      | .ct ρ2 => loopS tg body ds ρ2
      | .bk ρ2 => .nx ρ2
      | .rt m d ρ2 => .rt m d ρ2
      | .ex C fs ρ2 => .ex C fs ρ2
      | .no => .no
def forS (it : List Sl → IO) (tg : D → List Sl → Option (List Sl)) (body : List Sl → SO) : List Sl → SO := fun ρ => match it ρ with
  | .ok _ ds ρ1 => loopS tg body ds ρ1
  | .ex C fs ρ1 => .ex C fs ρ1
  | .no => .no
def whileS (c : List Sl → BO) (body : List Sl → SO) : Nat → List Sl → SO
  | 0, _ => .no
  | n + 1, ρ => (c ρ).bindS fun b ρ1 => if b then (match body ρ1 with
      | .nx ρ2 => whileS c body n ρ2
      | .ct ρ2 => whileS c body n ρ2
      | .bk ρ2 => .nx ρ2
      | .rt m d ρ2 => .rt m d ρ2
      | .ex C fs ρ2 => .ex C fs ρ2
      | .no => .no) else .nx ρ1
section
variable {K : PySem.W.Frag} {W : WX} {G : Gh} {st : List TI} {ρ : List Sl} {σ : L2.St} {H : Hp} {F : Addr → Prop} {fp : Bool → Nat → List Addr}
/-- the second item is dropped -/
theorem EIF.drop2 {t u : TI} (I : EIF K G (t :: u :: st) ρ σ H F fp) : EI K G (t :: st) ρ σ H := by
  refine ⟨F, _, I.pop.pop.push (t := t) (q := fp false 0) (I.ti 0) (fun a h => I.nf false 0 a h) fun a h b i h' => ?_⟩
  cases b with
  | true =>
    have := (I.dj false 0 true i a h h').1
    cases this
  | false =>
    have := (I.dj false 0 false (i + 1 + 1) a h h').2
    omega
end
section
variable {X : Cx} {W : WX} {tg iter c : Expr} {S : List Nat} {body : List Stmt} {it : List Sl → IO} {g : D → List Sl → Option (List Sl)} {Tb : List Sl → SO} {Bc : List Sl → BO} {pos : Pos}
theorem fs_for (hp : PassesOwn (model X.prog X.w) X.A X.env X.xe) (hc : X.calm = true) (hi : FI X W tg iter it) (hg : FG X S tg g) (hb : FSs X W body Tb)
    (hs : ∀ x, foldedSetIterable iter X.env x = pure x := by intro _; rfl) : FS X W (.For tg iter body [] pos) (forS it g Tb) := by
  refine PS.imp (ps_for hp hc hi hg hb hs) fun E σ H ⟨G, st, ρ, I, h⟩ => ⟨G, st, ρ, I, ?_⟩
  unfold forS at h
  cases ei : it ρ with
  | no => rw [ei] at h; exact h.elim
  | ex C fs ρ1 => rw [ei] at h; exact (h σ).dead fun _ _ _ _ I => I.deadW
  | ok p ds ρ1 =>
    rw [ei] at h
    intro J t H1 I1 Y
    have hd : t.dead = t := Y.keeps
    have dd : dead (t :: dead st) = t :: dead st := by
      show t.dead :: dead (dead st) = _
      rw [hd, deads_dead]
    have I2 : EI X.K G (t :: dead st) ρ1 σ H1 := by
      have := I1.dead
      show EI X.K G (t :: dead st) ρ1 σ H1
      have e : dead (t :: dims p st) = t :: dead st := by
        show t.dead :: dead (dims p st) = _
        rw [hd, deads_dims]
      rw [e] at this
      exact this
    refine ⟨fun i m σ H => m = ds.length - i ∧ i ≤ ds.length ∧ ∃ ρ, EI X.K G (t :: dead st) ρ σ H ∧ AftS X.K W G st E (loopS g Tb (ds.drop i) ρ), ⟨_, rfl, Nat.zero_le _, ρ1, I2, by rw [List.drop_zero]; exact h⟩, ?_⟩
    rintro i m σ2 H2 ⟨rfl, hi, ρ2, I3, h3⟩
    by_cases hlt : i < ds.length
    · rw [List.drop_eq_getElem_cons hlt] at h3
      simp only [loopS] at h3
      obtain ⟨hgo, hy⟩ := Y.go G (dead st) ρ2 σ2 H2 i ds[i] I3 (List.getElem?_eq_getElem hlt)
      refine .inr ⟨hgo, fun σ' H' => ∃ ρ, EI X.K G (t :: dead st) ρ σ' H' ∧ AftS X.K W G st E (loopS g Tb (ds.drop (i + 1)) ρ), fun σ' H' ⟨ρ', I', h'⟩ => ⟨_, by omega, rfl, hlt, ρ', I', h'⟩, fun x H' y => ?_⟩
      have I4 := hy x H' y
      cases eg : g ds[i] ρ2 with
      | none => rw [eg] at h3; exact h3.elim
      | some ρ3 =>
        simp only [eg] at h3
        refine ⟨G, _, ρ2, ds[i], I4, ρ3, eg, fun σ5 _ I5 => ?_⟩
        rw [dd] at I5
        refine ⟨G, _, ρ3, I5, ?_⟩
        cases eb : Tb ρ3 with
        | nx ρ4 =>
          simp only [eb] at h3
          exact fun σ6 H6 I6 => ⟨ρ4, by rw [dd] at I6; exact I6, h3⟩
        | ct ρ4 =>
          simp only [eb] at h3
          exact fun σ6 H6 I6 => ⟨ρ4, by rw [dd] at I6; exact I6, h3⟩
        | bk ρ4 =>
          simp only [eb] at h3
          exact fun σ6 H6 I6 => h3 σ6 H6 (by rw [dd] at I6; exact I6.pop)
        | rt m d ρ4 =>
          simp only [eb] at h3
          exact fun v σ6 H6 I6 => h3 v σ6 H6 (by
            rw [dd] at I6
            obtain ⟨F, fp, I6⟩ := I6
            exact I6.drop2)
        | ex C fs ρ4 =>
          simp only [eb] at h3
          intro σ6 a gs H6 I6
          refine h3 σ6 a gs H6 ?_
          rw [dims_dead] at I6 ⊢
          rw [dd] at I6
          exact I6.drop2
        | no =>
          simp only [eb] at h3
          exact h3.elim
    · have e : i = ds.length := by omega
      subst e
      rw [List.drop_length] at h3
      exact .inl ⟨Y.stop G _ ρ2 σ2 H2 I3, h3 σ2 H2 I3.pop⟩
theorem fs_while (n : Nat) (hp : PassesOwn (model X.prog X.w) X.A X.env X.xe) (hc : FT X W c Bc) (hb : FSs X W body Tb) : FS X W (.While c body [] pos) (whileS Bc Tb n) := by
  refine PS.imp (ps_while hp hc hb) fun E σ H ⟨G, st, ρ, I, h⟩ => ?_
  refine ⟨fun m σ H => ∃ ρ, EI X.K G (dead st) ρ σ H ∧ AftS X.K W G st E (whileS Bc Tb m ρ), ⟨n, ρ, I.dead, h⟩, ?_⟩
  rintro m σ1 H1 ⟨ρ1, I1, h1⟩
  cases m with
  | zero => exact h1.elim
  | succ m =>
    simp only [whileS] at h1
    refine ⟨G, _, ρ1, I1, ?_⟩
    cases eb : Bc ρ1 with
    | no => rw [eb] at h1; exact h1.elim
    | ex C fs ρ2 =>
      rw [eb] at h1
      exact fun a gs H I => h1 σ1 a gs H I
    | ok p b ρ2 =>
      rw [eb] at h1
      simp only [BO.bindS] at h1
      intro H2 I2
      rw [dims_dead] at I2
      cases b with
      | false =>
        rw [if_neg Bool.false_ne_true] at h1 ⊢
        exact h1 σ1 H2 I2
      | true =>
        rw [if_pos rfl] at h1 ⊢
        refine ⟨fun σ' H' => ∃ ρ, EI X.K G (dead st) ρ σ' H' ∧ AftS X.K W G st E (whileS Bc Tb m ρ), fun σ' H' ⟨ρ', I', h'⟩ => ⟨m, Nat.lt_succ_self m, ρ', I', h'⟩, G, _, ρ2, I2, ?_⟩
        cases et : Tb ρ2 with
        | nx ρ3 =>
          simp only [et] at h1
          exact fun σ6 H6 I6 => ⟨ρ3, by rw [deads_dead] at I6; exact I6, h1⟩
        | ct ρ3 =>
          simp only [et] at h1
          exact fun σ6 H6 I6 => ⟨ρ3, by rw [deads_dead] at I6; exact I6, h1⟩
        | bk ρ3 =>
          simp only [et] at h1
          exact fun σ6 H6 I6 => h1 σ6 H6 (by rw [deads_dead] at I6; exact I6)
        | rt m d ρ3 =>
          simp only [et] at h1
          exact fun v σ6 H6 I6 => h1 v σ6 H6 (by rw [deads_dead] at I6; exact I6)
        | ex C fs ρ3 =>
          simp only [et] at h1
          exact fun σ6 a gs H6 I6 => h1 σ6 a gs H6 (by rw [deads_dead] at I6; exact I6)
        | no => simp only [et] at h1; exact h1.elim
end
/-! ### lists, tuples, ranges, texts, walked -/
def EO.bindI : EO → (Bool → RK → M → D → List Sl → IO) → IO
  | .ok p k m d ρ, f => f p k m d ρ
  | .ex C fs ρ, _ => .ex C fs ρ
  | .no, _ => .no
/-- the items of a frozen list, tuple -/
def lstI (T : List Sl → EO) : List Sl → IO := fun ρ => (T ρ).bindI fun p k m d ρ1 => match k, m, d with
  | .t, .f, .lst ds => .ok p ds ρ1
  | _, _, _ => .no
def tupI (T : List Sl → EO) : List Sl → IO := fun ρ => (T ρ).bindI fun p k m d ρ1 => match k, m, d with
  | .t, .f, .tup ds => .ok p ds ρ1
  | _, _, _ => .no
def signD (c : Nat) : D := .str ⟨#[c]⟩
def strI (T : List Sl → EO) : List Sl → IO := fun ρ => (T ρ).bindI fun p k m d ρ1 => match k, m, d with
  | .t, .f, .str x => .ok p (x.cps.toList.map signD) ρ1
  | _, _, _ => .no
section
variable {K : PySem.W.Frag} {W : WX} {G : Gh} {st st1 : List TI} {ρ : List Sl} {σ : L2.St} {H : Hp} {F : Addr → Prop} {fp : Bool → Nat → List Addr}
theorem Aft.bindI {x : EO} {f : Bool → RK → M → D → List Sl → IO} {R : VK} {Q : It → Hp → Prop} (h : match x.bindI f with
      | .ok p ds ρ1 => ∀ J t H1, EI K G (t :: FL.dims p st) ρ1 σ H1 → Yields K J t ds → Q J H1
      | .ex C fs ρ1 => AftX K W G st σ C fs ρ1
      | .no => False) (hk : ∀ p k m d ρ1, x = .ok p k m d ρ1 → (match f p k m d ρ1 with
      | .ok p ds ρ1 => ∀ J t H1, EI K G (t :: FL.dims p st) ρ1 σ H1 → Yields K J t ds → Q J H1
      | .ex C fs ρ1 => AftX K W G st σ C fs ρ1
      | .no => False) → ∀ v H1, EI K G (mkI k m d v :: FL.dims p st) ρ1 σ H1 → R v H1) : Aft K W G st σ R x := by
  cases x with
  | ok p k m d ρ1 => exact hk p k m d ρ1 rfl h
  | ex C fs ρ1 => exact h
  | no => exact h
theorem RepL.get : ∀ {ds : List D} {vs : List V} {i : Nat} {d : D}, RepL K F H ds vs → ds[i]? = some d → ∃ v, vs[i]? = some v ∧ Rep K F H d v
  | [], vs, i, d, r, e => by simp at e
  | d0 :: ds, vs, 0, d, r, e => by
    unfold RepL at r
    obtain ⟨v, t, rfl, x, y⟩ := r
    simp only [List.getElem?_cons_zero, Option.some.injEq] at e
    subst e
    exact ⟨v, rfl, x⟩
  | d0 :: ds, vs, i + 1, d, r, e => by
    unfold RepL at r
    obtain ⟨v, t, rfl, x, y⟩ := r
    simpa using RepL.get y (by simpa using e)
theorem EIF.pushRep {d : D} {v : V} (I : EIF K G st ρ σ H F fp) (r : Rep K F H d v) : EI K G (.t .f d v :: st) ρ σ H := by
  refine ⟨F, _, I.push (t := .t .f d v) (q := []) ?_ (fun a m => nomatch m) fun a m => nomatch m⟩
  show RepO K F H .f d v []
  unfold RepO
  exact ⟨rfl, r⟩
theorem rep_f {d : D} {v : V} {q : List Addr} (r : RepO K F H .f d v q) : Rep K F H d v := by
  unfold RepO at r
  exact r.2
theorem yields_lst {a : Addr} {ds : List D} : Yields K (Itl K a) (.t .f (.lst ds) (.ref a)) ds where
  go := fun G st ρ σ H i d ⟨F, fp, I⟩ e => by
    have r := rep_f (I.ti 0)
    unfold Rep at r
    obtain ⟨a', vs, e1, la, rl⟩ := r
    cases e1
    obtain ⟨v, ev, rv⟩ := rl.get e
    refine ⟨⟨vs, v, la.sq, ev⟩, fun x H' ⟨e2, y⟩ => ?_⟩
    subst e2
    have := y vs la.sq
    rw [ev] at this
    cases this
    exact I.pushRep rv
  stop := fun G st ρ σ H ⟨F, fp, I⟩ => by
    have r := rep_f (I.ti 0)
    unfold Rep at r
    obtain ⟨a', vs, e1, la, rl⟩ := r
    cases e1
    exact ⟨vs, la.sq, Nat.le_of_eq rl.len.symm⟩
  keeps := rfl
theorem yields_tup {a : Addr} {ds : List D} : Yields K (Itt K a) (.t .f (.tup ds) (.ref a)) ds where
  go := fun G st ρ σ H i d ⟨F, fp, I⟩ e => by
    have r := rep_f (I.ti 0)
    unfold Rep at r
    obtain ⟨a', vs, e1, la, rl⟩ := r
    cases e1
    obtain ⟨v, ev, rv⟩ := rl.get e
    refine ⟨⟨vs, v, la.sq, ev⟩, fun x H' ⟨e2, y⟩ => ?_⟩
    subst e2
    have := y vs la.sq
    rw [ev] at this
    cases this
    exact I.pushRep rv
  stop := fun G st ρ σ H ⟨F, fp, I⟩ => by
    have r := rep_f (I.ti 0)
    unfold Rep at r
    obtain ⟨a', vs, e1, la, rl⟩ := r
    cases e1
    exact ⟨vs, la.sq, Nat.le_of_eq rl.len.symm⟩
  keeps := rfl
theorem yields_str {x : Str} {v : V} : Yields K (Its x) (.t .f (.str x) v) (x.cps.toList.map signD) where
  go := fun G st ρ σ H i d ⟨F, fp, I⟩ e => by
    rw [List.getElem?_map] at e
    obtain ⟨c, ec, rfl⟩ := Option.map_eq_some_iff.mp e
    have hi := (List.getElem?_eq_some_iff.mp ec).1
    refine ⟨(show i < x.cps.size by simpa using hi), fun x' H' ⟨e2, c', e3, e4⟩ => ?_⟩
    subst e2
    have : c = c' := by
      rw [Array.getElem?_toList] at ec
      rw [ec] at e3
      exact Option.some.inj e3
    subst this
    subst e4
    exact I.pushRep (by unfold signD Rep; rfl)
  stop := fun G st ρ σ H I => by
    show x.cps.size ≤ _
    simp
  keeps := rfl
end
section
variable {X : Cx} {W : WX} {tg e : Expr} {T : List Sl → EO}
theorem fi_lst (h : FE X W e T) : FI X W tg e (lstI T) := by
  refine PI.imp (pi_list h) fun σ H R ⟨G, st, ρ, I, h⟩ => ⟨G, st, ρ, I, Aft.bindI h fun p k m d ρ1 ex h v H1 I1 => ?_⟩
  cases k with
  | t =>
    cases m with
    | f =>
      cases d with
      | lst ds =>
        obtain ⟨F, fp, I2⟩ := id I1
        have r := rep_f (I2.ti 0)
        unfold Rep at r
        obtain ⟨a, vs, rfl, la, rl⟩ := r
        exact ⟨a, rfl, ⟨vs, la.sq⟩, h _ _ _ I1 yields_lst⟩
      | _ => exact h.elim
    | _ => exact h.elim
  | _ => exact h.elim
theorem fi_tup (h : FE X W e T) : FI X W tg e (tupI T) := by
  refine PI.imp (pi_tup h) fun σ H R ⟨G, st, ρ, I, h⟩ => ⟨G, st, ρ, I, Aft.bindI h fun p k m d ρ1 ex h v H1 I1 => ?_⟩
  cases k with
  | t =>
    cases m with
    | f =>
      cases d with
      | tup ds =>
        obtain ⟨F, fp, I2⟩ := id I1
        have r := rep_f (I2.ti 0)
        unfold Rep at r
        obtain ⟨a, vs, rfl, la, rl⟩ := r
        exact ⟨a, rfl, ⟨vs, la.sq⟩, h _ _ _ I1 yields_tup⟩
      | _ => exact h.elim
    | _ => exact h.elim
  | _ => exact h.elim
theorem fi_str (h : FE X W e T) : FI X W tg e (strI T) := by
  refine PI.imp (pi_str h) fun σ H R ⟨G, st, ρ, I, h⟩ => ⟨G, st, ρ, I, Aft.bindI h fun p k m d ρ1 ex h v H1 I1 => ?_⟩
  cases k with
  | t =>
    cases m with
    | f =>
      cases d with
      | str x =>
        obtain ⟨F, fp, I2⟩ := id I1
        have r := rep_f (I2.ti 0)
        unfold Rep at r
        exact ⟨x, r, h _ _ _ I1 yields_str⟩
      | _ => exact h.elim
    | _ => exact h.elim
  | _ => exact h.elim
end
end FL

namespace FL
open PySem PySem.Spec PyProof.Rows L2
/-! ### ranges, enumerate -/
def AO.bindI : AO → (Bool → List (AK × M × D) → List Sl → IO) → IO
  | .ok p its ρ, f => f p its ρ
  | .ex C fs ρ, _ => .ex C fs ρ
  | .no, _ => .no
def rangeD (lo hi : Int) : List D := (List.range (hi - lo).toNat).map fun i : Nat => D.int (lo + i)
def intsA : List (M × D) → Option (List Int)
  | [] => some []
  | (.f, .int i) :: r => (intsA r).map (i :: ·)
  | _ => none
def rng1 : List Int → Option Int
  | [j] => if -(2 ^ 62) ≤ j ∧ j < 2 ^ 62 then some j else none
  | _ => none
def rng2 : List Int → Option (Int × Int)
  | [i, j] => if -(2 ^ 62) ≤ i ∧ i < 2 ^ 62 ∧ -(2 ^ 62) ≤ j ∧ j < 2 ^ 62 then some (i, j) else none
  | _ => none
def IO.of (p : Bool) (ρ : List Sl) : Option (List D) → IO
  | some ds => .ok p ds ρ
  | none => .no
def rangeI (Ts : List Sl → AO) : List Sl → IO := fun ρ => (Ts ρ).bindI fun p its ρ1 => .of p ρ1 ((((curs ρ1 its).bind intsA).bind rng1).map (rangeD 0))
def rangeI2 (Ts : List Sl → AO) : List Sl → IO := fun ρ => (Ts ρ).bindI fun p its ρ1 => .of p ρ1 ((((curs ρ1 its).bind intsA).bind rng2).map fun r => rangeD r.1 r.2)
def enumD (ds : List D) : List D := (List.range ds.length).map fun i : Nat => D.tup [.int i, ds.getD i .non]
section
variable {K : PySem.W.Frag} {W : WX} {G : Gh} {st st1 : List TI} {ρ : List Sl} {σ : L2.St} {H : Hp} {F : Addr → Prop} {fp : Bool → Nat → List Addr}
theorem AftA.bindI {x : AO} {f : Bool → List (AK × M × D) → List Sl → IO} {R : List V → Hp → Prop} {Q : It → Hp → Prop} (h : match x.bindI f with
      | .ok p ds ρ1 => ∀ J t H1, EI K G (t :: FL.dims p st) ρ1 σ H1 → Yields K J t ds → Q J H1
      | .ex C fs ρ1 => AftX K W G st σ C fs ρ1
      | .no => False) (hk : ∀ p its ρ1, x = .ok p its ρ1 → (match f p its ρ1 with
      | .ok p ds ρ1 => ∀ J t H1, EI K G (t :: FL.dims p st) ρ1 σ H1 → Yields K J t ds → Q J H1
      | .ex C fs ρ1 => AftX K W G st σ C fs ρ1
      | .no => False) → ∀ vs H1, vs.length = its.length → EI K G (stackA its vs (FL.dims p st)) ρ1 σ H1 → R vs H1) : AftA K W G st σ R x := by
  cases x with
  | ok p its ρ1 => exact hk p its ρ1 rfl h
  | ex C fs ρ1 => exact h
  | no => exact h
theorem intsA_rep : ∀ {as : List (M × D)} {ns : List Int} {vs : List V}, intsA as = some ns → RepAs K F H as vs → vs = ns.map V.int
  | [], ns, vs, h, r => by
    cases h
    exact r
  | (m, d) :: as, ns, vs, h, r => by
    cases m with
    | f =>
      cases d with
      | int i =>
        simp only [intsA] at h
        obtain ⟨ns', e, rfl⟩ := Option.map_eq_some_iff.mp h
        obtain ⟨v, t, rfl, ⟨q, x⟩, y⟩ := r
        have := rep_f x
        unfold Rep at this
        subst this
        rw [intsA_rep e y]
        rfl
      | _ => cases h
    | o c => cases h
    | r ms => cases h
theorem EI.pushX (I : EI K G st ρ σ H) : EI K G (.x :: st) ρ σ H := by
  obtain ⟨F, fp, I⟩ := I
  exact ⟨F, _, I.push (t := .x) (q := []) rfl (fun a m => nomatch m) fun a m => nomatch m⟩
theorem EI.pushInt {i : Int} (I : EI K G st ρ σ H) : EI K G (.t .f (.int i) (.int i) :: st) ρ σ H := by
  obtain ⟨F, fp, I⟩ := I
  exact I.pushRep (by unfold Rep; rfl)
theorem yields_range {lo hi : Int} : Yields K (Itr lo (hi - lo).toNat) .x (rangeD lo hi) where
  go := fun G st ρ σ H i d I e => by
    unfold rangeD at e
    rw [List.getElem?_map] at e
    obtain ⟨j, ej, rfl⟩ := Option.map_eq_some_iff.mp e
    obtain ⟨hj, e2⟩ := List.getElem?_eq_some_iff.mp ej
    simp only [List.length_range] at hj
    simp only [List.getElem_range] at e2
    subst e2
    refine ⟨hj, fun x H' ⟨e3, e4⟩ => ?_⟩
    subst e3
    subst e4
    exact I.pushInt
  stop := fun G st ρ σ H I => by
    show (hi - lo).toNat ≤ _
    simp [rangeD]
  keeps := rfl
theorem yields_enum {a : Addr} {ds : List D} : Yields K (Ite K a) (.t .f (.lst ds) (.ref a)) (enumD ds) where
  go := fun G st ρ σ H i d ⟨F, fp, I⟩ e => by
    unfold enumD at e
    rw [List.getElem?_map] at e
    obtain ⟨j, ej, rfl⟩ := Option.map_eq_some_iff.mp e
    obtain ⟨hj, e2⟩ := List.getElem?_eq_some_iff.mp ej
    simp only [List.length_range] at hj
    simp only [List.getElem_range] at e2
    subst e2
    have ed : ds[i]? = some ds[i] := List.getElem?_eq_getElem hj
    have r := rep_f (I.ti 0)
    unfold Rep at r
    obtain ⟨a', vs, e1, la, rl⟩ := r
    cases e1
    obtain ⟨v, ev, rv⟩ := rl.get ed
    refine ⟨⟨vs, v, la.sq, ev⟩, fun x H' ⟨T, y, ex, hT, eH, hy⟩ => ?_⟩
    subst ex
    subst eH
    have := hy vs la.sq
    rw [ev] at this
    cases this
    have e := Ext.putF (o := .tup [.int (i : Nat), v]) I.lv hT
    refine I.pushNew (q := []) e ?_ fun a m => nomatch m
    unfold RepO
    refine ⟨rfl, ?_⟩
    unfold Rep
    refine ⟨T, _, rfl, .inl ⟨.inr (by simp), .inl upd_same⟩, ?_⟩
    unfold RepL
    refine ⟨_, _, rfl, by unfold Rep; rfl, ?_⟩
    unfold RepL
    refine ⟨_, _, rfl, ?_, by unfold RepL; rfl⟩
    rw [List.getD_eq_getElem?_getD, ed]
    exact Rep.mono e.more e.stays _ _ rv
  stop := fun G st ρ σ H ⟨F, fp, I⟩ => by
    have r := rep_f (I.ti 0)
    unfold Rep at r
    obtain ⟨a', vs, e1, la, rl⟩ := r
    cases e1
    exact ⟨vs, la.sq, by simp [enumD]; exact Nat.le_of_eq rl.len.symm⟩
  keeps := rfl
end
def enumI (T : List Sl → EO) : List Sl → IO := fun ρ => (T ρ).bindI fun p k m d ρ1 => match k, m, d with
  | .t, .f, .lst ds => .ok p (enumD ds) ρ1
  | _, _, _ => .no
section
variable {X : Cx} {W : WX} {tg e a b : Expr} {T : List Sl → EO} {Ts : List Sl → AO} {p pos : Pos}
theorem fi_range1 (hg : Gl X "range") (hm : X.mg "range" = none) (ha : FA X W [a] Ts) (hs : starEach [a] X.env = [(false, eval a X.env)] := by rfl) : FI X W tg (.Call (.Name "range" p) [a] [] pos) (rangeI Ts) := by
  refine PI.imp (pi_range1 hg hm ha hs) fun σ H R ⟨G, st, ρ, I, h⟩ => ⟨G, st, ρ, I, AftA.bindI h fun p its ρ1 ex h vs H1 hl I1 => ?_⟩
  cases ec : (((curs ρ1 its).bind intsA).bind rng1) with
  | none => simp only [ec, Option.map_none, IO.of] at h
  | some j =>
    obtain ⟨ns, ec, ej⟩ := Option.bind_eq_some_iff.mp ec
    obtain ⟨as, ea, ei⟩ := Option.bind_eq_some_iff.mp ec
    obtain ⟨F, fp, I2⟩ := I1
    obtain ⟨r1, fp', I3⟩ := stackA_rep hl I2 ea
    have ev := intsA_rep ei r1
    simp only [ea, ei, ej, Option.bind_some, Option.map_some, IO.of] at h
    match ns, ej with
    | [j'], ej =>
      simp only [rng1] at ej
      split at ej
      · rename_i c
        cases ej
        refine ⟨j, ev, c.1, c.2, ?_⟩
        have := h (Itr 0 (j - 0).toNat) .x H1 (EI.pushX ⟨F, _, I3⟩) yields_range
        simpa using this
      · cases ej
    | [], ej => cases ej
    | _ :: _ :: _, ej => cases ej
theorem fi_range2 (hg : Gl X "range") (hm : X.mg "range" = none) (ha : FA X W [a, b] Ts) (hs : starEach [a, b] X.env = [(false, eval a X.env), (false, eval b X.env)] := by rfl) (hs2 : starEach [b] X.env = [(false, eval b X.env)] := by rfl) :
    FI X W tg (.Call (.Name "range" p) [a, b] [] pos) (rangeI2 Ts) := by
  refine PI.imp (pi_range2 hg hm ha hs hs2) fun σ H R ⟨G, st, ρ, I, h⟩ => ⟨G, st, ρ, I, AftA.bindI h fun p its ρ1 ex h vs H1 hl I1 => ?_⟩
  cases ec : (((curs ρ1 its).bind intsA).bind rng2) with
  | none => simp only [ec, Option.map_none, IO.of] at h
  | some r =>
    obtain ⟨ns, ec, ej⟩ := Option.bind_eq_some_iff.mp ec
    obtain ⟨as, ea, ei⟩ := Option.bind_eq_some_iff.mp ec
    obtain ⟨F, fp, I2⟩ := I1
    obtain ⟨r1, fp', I3⟩ := stackA_rep hl I2 ea
    have ev := intsA_rep ei r1
    simp only [ea, ei, ej, Option.bind_some, Option.map_some, IO.of] at h
    match ns, ej with
    | [i', j'], ej =>
      simp only [rng2] at ej
      split at ej
      · rename_i c
        cases ej
        exact ⟨i', j', ev, c, h _ .x H1 (EI.pushX ⟨F, _, I3⟩) yields_range⟩
      · cases ej
    | [], ej => cases ej
    | [_], ej => cases ej
    | _ :: _ :: _ :: _, ej => cases ej
theorem fi_enum {tpos : Pos} {elts : List Expr} {kk : Nat} (hg : Gl X "enumerate") (hm : X.mg "enumerate" = none) (he : FE X W e T) (hs : starEach [e] X.env = [(false, eval e X.env)] := by rfl) : FI X W (.Tuple elts kk tpos) (.Call (.Name "enumerate" p) [e] [] pos) (enumI T) := by
  refine PI.imp (pi_enum hg hm (pa_cons he pa_nil (by rw [hs]; rfl)) hs) fun σ H R ⟨G, st, ρ, I, h⟩ => ⟨G, st, ρ, I, Aft.bindI h fun p k m d ρ1 ex h v H1 I1 => ?_⟩
  cases k with
  | t =>
    cases m with
    | f =>
      cases d with
      | lst ds =>
        obtain ⟨F, fp, I2⟩ := id I1
        have r := rep_f (I2.ti 0)
        unfold Rep at r
        obtain ⟨a, vs, rfl, la, rl⟩ := r
        exact ⟨a, vs, rfl, la.sq, h _ _ _ I1 yields_enum⟩
      | _ => exact h.elim
    | _ => exact h.elim
  | _ => exact h.elim
end
end FL

namespace FL
open PySem PySem.Spec PyProof.Rows L2
/-! ### writing what one owns -/
section
variable {K : PySem.W.Frag} {W : WX} {G : Gh} {st st1 : List TI} {ρ : List Sl} {σ : L2.St} {H : Hp} {F : Addr → Prop} {fp : Bool → Nat → List Addr}
theorem RepO.upd {m : M} {d : D} {v : V} {q : List Addr} {A : Addr} {o : HO} (r : RepO K F H m d v q) (hF : ¬ F A) (hA : A ∉ q) : RepO K F (upd H A o) m d v q :=
  RepO.mono (fun _ h => h) (fun b u f e => by rw [upd_ne (fun z => by subst z; exact hF f)]; exact e) m d v q (fun b h => upd_ne fun z => by subst z; exact hA h) r
theorem SlOk.upd {s : Sl} {ov : Option (Option V)} {q : List Addr} {A : Addr} {o : HO} (r : SlOk K G F H s ov q) (hF : ¬ F A) (hA : A ∉ q) : SlOk K G F (upd H A o) s ov q := by
  cases s with
  | no => exact r
  | xn a d C fs =>
    obtain ⟨h1, h2, gs, p⟩ := r
    refine ⟨h1, h2, gs, px_stab _ _ _ _ (fun _ h => h) (fun b u f e => ?_) p⟩
    rw [upd_ne (fun z => by subst z; exact hF f)]
    exact e
  | va p m d =>
    obtain ⟨v, e, x, y⟩ := r
    exact ⟨v, e, x.upd hF hA, y⟩
theorem TIOk.upd {t : TI} {q : List Addr} {A : Addr} {o : HO} (r : TIOk K σ F H t q) (hF : ¬ F A) (hA : A ∉ q) : TIOk K σ F (upd H A o) t q := by
  cases t with
  | t m d v => exact RepO.upd (m := m) r hF hA
  | s k v => exact r
  | w P =>
    refine ⟨r.1, r.2.1, r.2.1 _ _ _ _ (fun _ h => h) (fun b u f e => ?_) r.2.2⟩
    rw [upd_ne (fun z => by subst z; exact hF f)]
    exact e
  | x => exact r
theorem lv_upd {A : Addr} {o : HO} (lv : ∀ a, F a → ∃ o, H a = some o) : ∀ a, F a → ∃ u, upd H A o a = some u := fun a h => by
  by_cases z : a = A
  · exact ⟨o, by rw [z]; exact upd_same⟩
  · obtain ⟨u, hu⟩ := lv a h
    exact ⟨u, by rw [upd_ne z]; exact hu⟩
/-- an object that the top owns is written -/
theorem EIF.writeTop {t t' : TI} {A : Addr} {o : HO} {q : List Addr} (I : EIF K G (t :: st) ρ σ H F fp) (hA : A ∈ fp false 0) (hn : TIOk K σ F (upd H A o) t' q) (hq : ∀ a ∈ q, a ∈ fp false 0) : EIF K G (t' :: st) ρ σ (upd H A o) F (pushF (popF fp) q) := by
  have hF : ¬ F A := (I.nf false 0 A hA).1
  have J := I.pop
  have J2 : EIF K G st ρ σ (upd H A o) F (popF fp) := by
    refine ⟨fun i => (J.sl i).upd hF fun h => ?_, fun j => (J.ti j).upd hF fun h => ?_, J.nf, J.dj, fun a u e n => ?_, J.f0, J.fo, lv_upd J.lv, J.len⟩
    · have := (I.dj true i false 0 A h hA).1
      cases this
    · have := (I.dj false (j + 1) false 0 A h hA).2
      omega
    · have ne : a ≠ A := fun z => by
        subst z
        rcases (I.nf false 0 a hA).2 with z | z
        · exact n z
        · rw [e] at z; cases z
      rw [upd_ne ne]
      exact J.keep a u e n
  refine J2.push hn (fun a h => I.nf false 0 a (hq a h)) fun a h b i h' => ?_
  cases b with
  | true =>
    have := (I.dj true i false 0 a h' (hq a h)).1
    cases this
  | false =>
    have := (I.dj false (i + 1) false 0 a h' (hq a h)).2
    omega
/-- an object that a slot owns is written -/
theorem EIF.writeSl {i : Nat} {s : Sl} {A : Addr} {o : HO} {q : List Addr} (I : EIF K G st ρ σ H F fp) (hi : i < ρ.length) (hA : A ∈ fp true i) (hn : SlOk K G F (upd H A o) s σ[i]? q) (hq : ∀ a ∈ q, a ∈ fp true i) : EIF K G st (ρ.set i s) σ (upd H A o) F (setF fp true i q) := by
  have hF : ¬ F A := (I.nf true i A hA).1
  have at_ : ∀ b j a, a ∈ setF fp true i q b j → a ∈ fp b j := fun b j a h => by
    unfold setF at h
    split at h
    · rename_i c
      rw [c.1, c.2]
      exact hq a h
    · exact h
  refine ⟨fun j => ?_, fun j => ?_, fun b j a h => I.nf b j a (at_ _ _ _ h), fun b j b' i' a h h' => I.dj b j b' i' a (at_ _ _ _ h) (at_ _ _ _ h'), fun a u e n => ?_, I.f0, I.fo, lv_upd I.lv, by rw [List.length_set]; exact I.len⟩
  · by_cases hj : j = i
    · subst hj
      have e : setF fp true j q true j = q := by simp [setF]
      rw [e, List.getD_eq_getElem?_getD, List.getElem?_set_self hi]
      exact hn
    · have e : setF fp true i q true j = fp true j := by simp [setF, hj]
      rw [e, List.getD_eq_getElem?_getD, List.getElem?_set_ne (Ne.symm hj), ← List.getD_eq_getElem?_getD]
      exact (I.sl j).upd hF fun h => hj (I.dj true j true i A h hA).2
  · have e : setF fp true i q false j = fp false j := by simp [setF]
    rw [e]
    exact (I.ti j).upd hF fun h => by
      have := (I.dj false j true i A h hA).1
      cases this
  · have ne : a ≠ A := fun z => by
      subst z
      rcases (I.nf true i a hA).2 with z | z
      · exact n z
      · rw [e] at z; cases z
    rw [upd_ne ne]
    exact I.keep a u e n
end
/-! ### the block of a comprehension -/
def wipeSl (ρ : List Sl) (vs : List Nat) : List Sl := ρ.mapIdx fun i s => if vs.contains i then .no else s
theorem wipeSl_len (ρ : List Sl) (vs : List Nat) : (wipeSl ρ vs).length = ρ.length := by simp [wipeSl]
theorem wipeSl_get (ρ : List Sl) (vs : List Nat) (i : Nat) : (wipeSl ρ vs).getD i .no = if vs.contains i then .no else ρ.getD i .no := by
  unfold wipeSl
  rw [List.getD_eq_getElem?_getD, List.getD_eq_getElem?_getD, List.getElem?_mapIdx]
  cases ρ[i]? with
  | none => simp
  | some s => rfl
theorem wipe_get {σ : L2.St} : ∀ {vs : List Nat} {i : Nat}, i ∉ vs → (wipe σ vs)[i]? = σ[i]?
  | [], i, h => rfl
  | v :: vs, i, h => by
    simp only [List.mem_cons, not_or] at h
    unfold wipe
    rw [List.getElem?_set_ne (fun e => h.1 e.symm)]
    exact wipe_get h.2
theorem wipe_in {σ : L2.St} : ∀ {vs : List Nat} {i : Nat}, i ∈ vs → i < σ.length → (wipe σ vs)[i]? = some none
  | v :: vs, i, h, hl => by
    unfold wipe
    by_cases e : v = i
    · subst e
      rw [List.getElem?_set_self (by rw [wipe_length]; exact hl)]
    · rw [List.getElem?_set_ne e]
      exact wipe_in (by simpa [Ne.symm e] using h) hl
theorem wipe_off {S vs : List Nat} {σ σ' : L2.St} (h : Off S (wipe σ vs) σ') (hs : ∀ i ∈ S, i ∈ vs) : wipe σ' vs = wipe σ vs := by
  have hl : σ'.length = σ.length := by rw [h.1, wipe_length]
  refine List.ext_getElem? fun i => ?_
  by_cases hi : i ∈ vs
  · by_cases hlt : i < σ.length
    · rw [wipe_in hi hlt, wipe_in hi (by rw [hl]; exact hlt)]
    · rw [List.getElem?_eq_none (by rw [wipe_length, hl]; omega), List.getElem?_eq_none (by rw [wipe_length]; omega)]
  · rw [wipe_get hi, h.2 i (fun m => hi (hs i m))]
section
variable {K : PySem.W.Frag} {W : WX} {G : Gh} {st st1 : List TI} {ρ : List Sl} {σ σ' : L2.St} {H : Hp} {F : Addr → Prop} {fp : Bool → Nat → List Addr}
/-- another store that agrees but at vs; the stack is dead -/
theorem EIF.swap {vs : List Nat} (I : EIF K G (FL.dead st) ρ σ H F fp) (hl : σ'.length = σ.length) (hs : ∀ i, i ∉ vs → σ'[i]? = σ[i]?) : EIF K G (FL.dead st) (wipeSl ρ vs) σ' H F (fun b i => if b = true ∧ i ∈ vs then [] else fp b i) := by
  have at_ : ∀ b i a, a ∈ (if b = true ∧ i ∈ vs then [] else fp b i) → a ∈ fp b i := fun b i a h => by
    split at h
    · cases h
    · exact h
  refine ⟨fun i => ?_, fun j => ?_, fun b i a h => I.nf b i a (at_ _ _ _ h), fun b i b' i' a h h' => I.dj b i b' i' a (at_ _ _ _ h) (at_ _ _ _ h'), I.keep, I.f0, I.fo, I.lv, by rw [wipeSl_len, hl]; exact I.len⟩
  · rw [wipeSl_get]
    by_cases hi : i ∈ vs
    · rw [if_pos (by simpa using hi), if_pos ⟨rfl, hi⟩]
      rfl
    · rw [if_neg (by simpa using hi), if_neg (fun z => hi z.2), hs i hi]
      exact I.sl i
  · rw [if_neg (fun z => nomatch z.1)]
    have t := I.ti j
    cases hr : (FL.dead st).getD j .x with
    | t m d v => rw [hr] at t; exact t
    | x => rw [hr] at t; exact t
    | w P => rw [hr] at t; exact t
    | s k v =>
      exfalso
      unfold FL.dead at hr
      rw [List.getD_eq_getElem?_getD, List.getElem?_map] at hr
      cases hx : st[j]? with
      | none => rw [hx] at hr; cases hr
      | some u => rw [hx] at hr; cases u <;> cases hr
theorem EI.swap {vs : List Nat} (I : EI K G (FL.dead st) ρ σ H) (hl : σ'.length = σ.length) (hs : ∀ i, i ∉ vs → σ'[i]? = σ[i]?) : EI K G (FL.dead st) (wipeSl ρ vs) σ' H := by
  obtain ⟨F, fp, I⟩ := I
  exact ⟨F, _, I.swap hl hs⟩
/-- what the stack tells of the slots, without the heap -/
def SFacts (σ : L2.St) (st : List TI) : Prop := ∀ (j k : Nat) (v : V), st[j]? = some (FL.TI.s k v) → σ[k]? = some (some v)
theorem EIF.facts (I : EIF K G st ρ σ H F fp) : SFacts σ st := by
  intro j k v e
  · have t := I.ti j
    rw [List.getD_eq_getElem?_getD, e] at t
    exact t.2
/-- the stack's looks at slots live again -/
theorem EIF.wake (I : EIF K G (FL.dead st) ρ σ H F fp) (f : SFacts σ st) : EIF K G st ρ σ H F fp := by
  refine ⟨I.sl, fun j => ?_, I.nf, I.dj, I.keep, I.f0, I.fo, I.lv, I.len⟩
  have t := I.ti j
  unfold FL.dead at t
  rw [List.getD_eq_getElem?_getD] at t ⊢
  rw [List.getElem?_map] at t
  cases q : st[j]? with
  | none =>
    rw [q] at t
    exact t
  | some u =>
    rw [q] at t
    cases u with
    | t m d v => exact t
    | s k v => exact ⟨t, f j k v q⟩
    | w P => exact t
    | x => exact t
end
/-! ### [.. for .. in .. if ..] -/
def FTs (X : Cx) (W : WX) (es : List Expr) (T : List Sl → BO) : Prop := PTs X es (tT X.K W T)
theorem PTs.imp {X : Cx} {e : List Expr} {t t' : TT} (h : PTs X e t) (i : ∀ σ H Q, t' σ H Q → t σ H Q) : PTs X e t' := ⟨fun pins s σ H Q I q => h.run pins s σ H Q I (i σ H Q q)⟩
def yesB : List Sl → BO := fun ρ => .ok true true ρ
theorem fts_nil {X : Cx} {W : WX} : FTs X W [] yesB := PTs.imp pts_nil fun σ H Q ⟨G, st, ρ, I, h⟩ => h H I
theorem fts_one {X : Cx} {W : WX} {c : Expr} {T : List Sl → BO} (h : FT X W c T) : FTs X W [c] T := pts_one h
def W0 : WX := fun _ _ _ _ => False
def lcL (vs : List Nat) (g : D → List Sl → Option (List Sl)) (tt : List Sl → BO) (te : List Sl → EO) : List D → List D → List Sl → Option (List D × List Sl)
  | [], acc, ρ => some (acc, ρ)
  | d :: ds, acc, ρ => match g d ρ with
    | none => none
    | some ρ1 => match tt ρ1 with
      | .ok _ true ρ2 => (match te ρ2 with
        | .ok _ .t .f e ρ3 => if acc.length < 16777216 then lcL vs g tt te ds (acc ++ [e]) (wipeSl ρ3 vs) else none
        | _ => none)
      | .ok _ false ρ2 => lcL vs g tt te ds acc (wipeSl ρ2 vs)
      | _ => none
def lcE (vs : List Nat) (it : List Sl → IO) (g : D → List Sl → Option (List Sl)) (tt : List Sl → BO) (te : List Sl → EO) : List Sl → EO := fun ρ => match it ρ with
  | .ok _ ds ρ1 => (match lcL vs g tt te ds [] (wipeSl ρ1 vs) with
    | some (acc, ρ2) => .ok false .t (.o .f) (.lst acc) (wipeSl ρ2 vs)
    | none => .no)
  | .ex C fs ρ1 => .ex C fs ρ1
  | .no => .no
section
variable {K : PySem.W.Frag} {W : WX} {G : Gh} {st st1 : List TI} {ρ : List Sl} {σ σ' : L2.St} {H : Hp} {F : Addr → Prop} {fp : Bool → Nat → List Addr}
theorem RepOs.snoc {R : D → V → List Addr → Prop} {d : D} {v : V} (r : R d v []) : ∀ {ds : List D} {vs : List V} {q : List Addr}, RepOs R ds vs q → RepOs R (ds ++ [d]) (vs ++ [v]) q
  | [], vs, q, h => by
    obtain ⟨rfl, rfl⟩ := h
    exact ⟨v, [], [], [], rfl, rfl, (fun a m => nomatch m), r, rfl, rfl⟩
  | e :: ds, vs, q, h => by
    obtain ⟨u, t, f1, f2, rfl, rfl, dj, x, y⟩ := h
    exact ⟨u, _, f1, f2, rfl, rfl, dj, x, RepOs.snoc r y⟩
theorem RepL.snoc {d : D} {v : V} (r : Rep K F H d v) : ∀ {ds : List D} {vs : List V}, RepL K F H ds vs → RepL K F H (ds ++ [d]) (vs ++ [v])
  | [], vs, h => by
    unfold RepL at h
    subst h
    show RepL K F H [d] [v]
    unfold RepL
    exact ⟨v, [], rfl, r, by unfold RepL; rfl⟩
  | e :: ds, vs, h => by
    unfold RepL at h
    obtain ⟨u, t, rfl, x, y⟩ := h
    show RepL K F H (e :: (ds ++ [d])) (u :: (t ++ [v]))
    unfold RepL
    exact ⟨u, _, rfl, x, RepL.snoc r y⟩
theorem RepOs.upd {c : M} {ds : List D} {vs : List V} {q : List Addr} {A : Addr} {o : HO} (r : RepOs (RepO K F H c) ds vs q) (hF : ¬ F A) (hA : A ∉ q) : RepOs (RepO K F (upd H A o) c) ds vs q :=
  RepOs.imp _ _ _ (fun d v q' s x => x.upd hF fun h => hA (s A h)) r
/-- the own list under two items gets one more -/
theorem EIF.app2 {t : TI} {d : D} {y : V} {D' : Addr} {acc : List D} (I : EIF K G (.t .f d y :: t :: .t (.o .f) (.lst acc) (.ref D') :: st) ρ σ H F fp) :
    ∃ vs, H D' = some (.lst vs) ∧ vs.length = acc.length ∧ EI K G (t :: .t (.o .f) (.lst (acc ++ [d])) (.ref D') :: st) ρ σ (upd H D' (.lst (vs ++ [y]))) := by
  have r2 : RepO K F H (.o .f) (.lst acc) (.ref D') (fp false 2) := I.ti 2
  have ry := rep_f (I.ti 0)
  unfold RepO at r2
  obtain ⟨a, vs, fr, e, ha, ef, nf, rs⟩ := r2
  cases e
  obtain ⟨efr, rl⟩ := RepOs.unfrz rs
  subst efr
  have hA : D' ∈ fp false 2 := by rw [ef]; exact List.mem_cons_self
  have hF : ¬ F D' := (I.nf false 2 D' hA).1
  refine ⟨vs, ha, rs.len.symm, ?_⟩
  have n0 : ∀ b i, D' ∈ fp b i → b = false ∧ i = 2 := fun b i h => I.dj b i false 2 D' h hA
  have I2 : EIF K G (t :: .t (.o .f) (.lst acc) (.ref D') :: st) ρ σ H F (popF fp) := I.pop
  refine ⟨F, popF fp, fun i => (I2.sl i).upd hF fun h => ?_, fun j => ?_, I2.nf, I2.dj, fun b u e n => ?_, I2.f0, I2.fo, lv_upd I2.lv, I2.len⟩
  · have := (n0 true i h).1
    cases this
  · match j with
    | 0 => exact (I2.ti 0).upd hF fun h => by have := (n0 false 1 h).2; omega
    | 1 =>
      show RepO K F _ (.o .f) (.lst (acc ++ [d])) (.ref D') (fp false 2)
      unfold RepO
      refine ⟨D', _, [], rfl, upd_same, ef, by simp, ?_⟩
      refine RepOs.snoc ?_ (RepOs.upd rs hF (by simp))
      exact RepO.upd (m := .f) (q := []) (by unfold RepO; exact ⟨rfl, ry⟩) hF (by simp)
    | j + 2 => exact (I2.ti (j + 2)).upd hF fun h => by have := (n0 false (j + 2 + 1) h).2; omega
  · have ne : b ≠ D' := fun z => by
      subst z
      rcases (I.nf false 2 b hA).2 with z | z
      · exact n z
      · rw [e] at z; cases z
    rw [upd_ne ne]
    exact I2.keep b u e n
/-- a new own empty list under the top -/
theorem EIF.under {t u : TI} {q : List Addr} (I : EIF K G (t :: st) ρ σ H F fp) (hu : TIOk K σ F H u q) (h1 : ∀ a ∈ q, ¬ F a ∧ (G.fp0 a ∨ G.H0 a = none)) (h2 : ∀ a ∈ q, ∀ b i, a ∉ fp b i) : EI K G (t :: u :: st) ρ σ H := by
  have J := I.pop.push hu h1 (fun a h b i h' => by
    cases b with
    | true => exact h2 a h true i h'
    | false => exact h2 a h false (i + 1) h')
  refine ⟨F, _, J.push (t := t) (q := fp false 0) (I.ti 0) (fun a h => I.nf false 0 a h) fun a h b i h' => ?_⟩
  cases b with
  | true =>
    have := (I.dj true i false 0 a h' h).1
    cases this
  | false =>
    cases i with
    | zero => exact h2 a h' false 0 h
    | succ i =>
      have := (I.dj false (i + 1) false 0 a h' h).2
      omega
theorem EI.underNew {t : TI} {m : M} {d : D} {v : V} {A : Addr} {o : HO} (I : EI K G (t :: st) ρ σ H) (hA : H A = none) (r : ∀ F, ¬ F A → RepO K F (upd H A o) m d v [A]) : EI K G (t :: .t m d v :: st) ρ σ (upd H A o) := by
  obtain ⟨F, fp, I⟩ := I
  have nA : ∀ b i, A ∉ fp b i := fun b i h => by
    obtain ⟨o, ho⟩ := I.there b i A h
    rw [hA] at ho
    cases ho
  have nF : ¬ F A := fun h => by
    obtain ⟨o, ho⟩ := I.lv A h
    rw [hA] at ho
    cases ho
  have I2 := I.ext (Ext.put (o := o) I.lv hA)
  refine I2.under (u := .t m d v) (q := [A]) (r F nF) (fun a h => ?_) fun a h b i => ?_
  · rw [List.mem_singleton.mp h]
    exact ⟨nF, I.fresh hA⟩
  · rw [List.mem_singleton.mp h]
    exact nA b i
end
theorem lc_t {K : PySem.W.Frag} {W : WX} {S vs : List Nat} {it : List Sl → IO} {g : D → List Sl → Option (List Sl)} {tt : List Sl → BO} {te : List Sl → EO} {σ : L2.St} {H : Hp} {Q : VK} (hS : ∀ i ∈ S, i ∈ vs) (h : tE K W (lcE vs it g tt te) σ H Q) : tLc (tI K W it) (tG K S g) (tT K W0 tt) (tE K W0 te) vs σ H Q := by
  obtain ⟨G, st, ρ, I, h⟩ := h
  refine ⟨G, st, ρ, I, ?_⟩
  unfold lcE at h
  cases ei : it ρ with
  | no => rw [ei] at h; exact h.elim
  | ex C fs ρ1 => rw [ei] at h; exact h
  | ok p ds ρ1 =>
    simp only [ei] at h
    intro J t H1 I1 Y D hD
    cases el : lcL vs g tt te ds [] (wipeSl ρ1 vs) with
    | none => rw [el] at h; exact h.elim
    | some r =>
    obtain ⟨accF, ρF⟩ := r
    simp only [el] at h
    have hd : t.dead = t := Y.keeps
    have facts : SFacts σ (FL.dims false st) := by
      obtain ⟨F, fp, I1'⟩ := I1
      have := (I1'.pop.dims false).facts
      rw [dims_dims] at this
      simpa using this
    -- the state within
    have dd : ∀ {s : List TI} {acc : List FL.D}, dead (t :: .t (.o .f) (.lst acc) (.ref D) :: dead s) = t :: .t (.o .f) (.lst acc) (.ref D) :: dead s := fun {s acc} => by
      show t.dead :: _ :: dead (dead s) = _
      rw [hd, deads_dead]
      rfl
    have start : EI K G (t :: .t (.o .f) (.lst []) (.ref D) :: dead st) (wipeSl ρ1 vs) (wipe σ vs) (upd H1 D (.lst [])) := by
      have a := EI.underNew (A := D) (o := .lst []) (m := .o .f) (d := .lst []) (v := .ref D) I1 hD fun F nF => by
        unfold RepO
        exact ⟨D, [], [], rfl, upd_same, rfl, by simp, rfl, rfl⟩
      have b := a.dead
      have e : dead (t :: .t (.o .f) (.lst []) (.ref D) :: FL.dims p st) = dead (t :: .t (.o .f) (.lst []) (.ref D) :: dead st) := by
        show t.dead :: _ :: dead (FL.dims p st) = t.dead :: _ :: dead (dead st)
        rw [deads_dims, deads_dead]
      rw [e] at b
      have c := EI.swap (σ' := wipe σ vs) (vs := vs) b (wipe_length σ vs) fun i hi => wipe_get hi
      rw [dd] at c
      exact c
    refine ⟨fun i m H => m = ds.length - i ∧ i ≤ ds.length ∧ ∃ ρ acc, EI K G (t :: .t (.o .f) (.lst acc) (.ref D) :: dead st) ρ (wipe σ vs) H ∧ lcL vs g tt te (ds.drop i) acc ρ = some (accF, ρF), ⟨_, rfl, Nat.zero_le _, _, [], start, by rw [List.drop_zero]; exact el⟩, ?_⟩
    rintro i m H2 ⟨rfl, hile, ρ2, acc, I2, h2⟩
    by_cases hlt : i < ds.length
    · rw [List.drop_eq_getElem_cons hlt] at h2
      simp only [lcL] at h2
      obtain ⟨hgo, hy⟩ := Y.go G _ ρ2 _ H2 i ds[i] I2 (List.getElem?_eq_getElem hlt)
      refine .inr ⟨hgo, fun H' => ∃ ρ acc, EI K G (t :: .t (.o .f) (.lst acc) (.ref D) :: dead st) ρ (wipe σ vs) H' ∧ lcL vs g tt te (ds.drop (i + 1)) acc ρ = some (accF, ρF), fun H' ⟨ρ', acc', I', h'⟩ => ⟨_, by omega, rfl, hlt, ρ', acc', I', h'⟩, fun x H' y => ?_⟩
      have I4 := hy x H' y
      cases eg : g ds[i] ρ2 with
      | none => rw [eg] at h2; cases h2
      | some ρ3 =>
        simp only [eg] at h2
        refine ⟨G, _, ρ2, ds[i], I4, ρ3, eg, fun σ5 o5 I5 => ⟨wipe_off o5 hS, ?_⟩⟩
        rw [dd] at I5
        refine ⟨G, _, ρ3, I5, ?_⟩
        have back : ∀ {acc' : List FL.D} {ρ' : List Sl} {H6 : Hp}, EI K G (t :: .t (.o .f) (.lst acc') (.ref D) :: dead st) ρ' σ5 H6 → EI K G (t :: .t (.o .f) (.lst acc') (.ref D) :: dead st) (wipeSl ρ' vs) (wipe σ vs) H6 := fun {acc' ρ' H6} I6 => by
          have w := wipe_off o5 hS
          rw [← w]
          rw [← dd] at I6 ⊢
          exact I6.swap (wipe_length σ5 vs) fun i hi => wipe_get hi
        have dimL : ∀ {p' : Bool} {acc' : List FL.D}, FL.dims p' (t :: .t (.o .f) (.lst acc') (.ref D) :: dead st) = t :: .t (.o .f) (.lst acc') (.ref D) :: dead st := fun {p' acc'} => by
          have e := dims_dead p' (t :: .t (.o .f) (.lst acc') (.ref D) :: st)
          have e2 : dead (t :: .t (.o .f) (.lst acc') (.ref D) :: st) = t :: .t (.o .f) (.lst acc') (.ref D) :: dead st := by
            show t.dead :: _ = _
            rw [hd]
            rfl
          rw [e2] at e
          exact e
        cases et : tt ρ3 with
        | no => rw [et] at h2; cases h2
        | ex C fs ρ4 => rw [et] at h2; cases h2
        | ok p4 b4 ρ4 =>
          simp only [et] at h2
          cases b4 with
          | false =>
            intro H6 I6
            rw [dimL] at I6
            rw [if_neg Bool.false_ne_true]
            exact ⟨_, acc, back I6, h2⟩
          | true =>
            dsimp only at h2
            intro H6 I6
            rw [dimL] at I6
            rw [if_pos rfl]
            refine ⟨G, _, ρ4, I6, ?_⟩
            cases ee : te ρ4 with
            | no => rw [ee] at h2; cases h2
            | ex C fs ρ5 => rw [ee] at h2; cases h2
            | ok p5 k5 m5 d5 ρ5 =>
              simp only [ee] at h2
              cases k5 with
              | s k => cases h2
              | w => cases h2
              | t =>
                cases m5 with
                | o c => cases h2
                | r ms => cases h2
                | f =>
                  simp only at h2
                  split at h2
                  · rename_i hlen
                    intro v H7 I7
                    rw [dimL] at I7
                    obtain ⟨F7, fp7, I7⟩ := I7
                    have I7 : EIF K G (.t .f d5 v :: t :: .t (.o .f) (.lst acc) (.ref D) :: dead st) ρ5 σ5 H7 F7 fp7 := I7
                    obtain ⟨us, hus, hul, I8⟩ := I7.app2
                    refine ⟨us, hus, by rw [hul, sizeLine_eq]; exact hlen, _, _, back I8, h2⟩
                  · cases h2
    · have e : i = ds.length := by omega
      subst e
      rw [List.drop_length] at h2
      simp only [lcL, Option.some.injEq, Prod.mk.injEq] at h2
      obtain ⟨rfl, rfl⟩ := h2
      refine .inl ⟨Y.stop G _ ρ2 _ H2 I2, h (.ref D) H2 ?_⟩
      have a := I2.pop
      have e1 : (.t (.o .f) (.lst acc) (.ref D) :: dead st : List TI) = dead (.t (.o .f) (.lst acc) (.ref D) :: st) := rfl
      rw [e1] at a
      have b := a.swap (σ' := σ) (vs := vs) (wipe_length σ vs).symm fun i hi => (wipe_get hi).symm
      have e2 : dead (.t (.o .f) (.lst acc) (.ref D) :: st) = dead (.t (.o .f) (.lst acc) (.ref D) :: FL.dims false st) := by
        show _ :: dead st = _ :: dead (FL.dims false st)
        rw [deads_dims]
      rw [e2] at b
      obtain ⟨F9, fp9, b⟩ := b
      refine ⟨F9, fp9, b.wake (fun j k v e => ?_)⟩
      cases j with
      | zero => cases e
      | succ j => exact facts j k v e
section
variable {X : Cx} {W : WX} {elt tg iter : Expr} {ifs : List Expr} {scope : Scope} {own : List (Str × Nat)} {S : List Nat} {it : List Sl → IO} {g : D → List Sl → Option (List Sl)} {tt : List Sl → BO} {te : List Sl → EO} {pos : Pos}
theorem fe_lc (hc : X.calm = true) (hN : X.N.Nodup) (hi : FI X W tg iter it) (ok : BlkOk X.N X.env.scope scope own)
    (hg : ∀ (s : Shared) (H : Hp) (C : Addr) (cl : List (Str × Addr)) (fp : List Addr), FG (X.blk s H scope (compEnvC scope cl C X.env) fp) S tg g)
    (ht : ∀ (s : Shared) (H : Hp) (C : Addr) (cl : List (Str × Addr)) (fp : List Addr), FTs (X.blk s H scope (compEnvC scope cl C X.env) fp) W0 ifs tt)
    (he : ∀ (s : Shared) (H : Hp) (C : Addr) (cl : List (Str × Addr)) (fp : List Addr), FE (X.blk s H scope (compEnvC scope cl C X.env) fp) W0 elt te)
    (hS : ∀ i ∈ S, i ∈ own.map (·.2) := by decide) (hs : ∀ x, foldedSetIterable iter X.env x = pure x := by intro _; rfl) :
    FE X W (.ListComp elt [⟨tg, iter, ifs, 0⟩] scope pos) (lcE (own.map (·.2)) it g tt te) :=
  PE.imp (pe_lc (g := tG X.K S g) (tt := tT X.K W0 tt) (te := tE X.K W0 te) hc hN hi ok hg ht he hs) fun σ H Q h => lc_t hS h
theorem fs_setLc {i : Nat} {y : Str} {py spos : Pos} (hc : X.calm = true) (hN : X.N.Nodup) (hy : X.N[i]? = some y) (hyl : X.env.scope.names.lookup y = some .local)
    (hsw : swapsWith (.ListComp elt [⟨tg, iter, ifs, 0⟩] scope pos) (some (.Name y py)) spos.line X.env = pure true) (hi : FI X W tg iter it) (ok : BlkOk X.N X.env.scope scope own)
    (hg : ∀ (s : Shared) (H : Hp) (C : Addr) (cl : List (Str × Addr)) (fp : List Addr), FG (X.blk s H scope (compEnvC scope cl C X.env) fp) S tg g)
    (ht : ∀ (s : Shared) (H : Hp) (C : Addr) (cl : List (Str × Addr)) (fp : List Addr), FTs (X.blk s H scope (compEnvC scope cl C X.env) fp) W0 ifs tt)
    (he : ∀ (s : Shared) (H : Hp) (C : Addr) (cl : List (Str × Addr)) (fp : List Addr), FE (X.blk s H scope (compEnvC scope cl C X.env) fp) W0 elt te)
    (hS : ∀ i ∈ S, i ∈ own.map (·.2) := by decide) (hs : ∀ x, foldedSetIterable iter X.env x = pure x := by intro _; rfl) :
    FS X W (.Assign [.Name y py] (.ListComp elt [⟨tg, iter, ifs, 0⟩] scope pos) spos) (setS i (lcE (own.map (·.2)) it g tt te)) :=
  PS.imp (ps_setLc (g := tG X.K S g) (tt := tT X.K W0 tt) (te := tE X.K W0 te) hc hN hy hyl hsw hi ok hg ht he hs) fun E σ H h => lc_t hS (set_aux h)
end
end FL

namespace FL
open PySem PySem.Spec PyProof.Rows L2
open PySem.SeqAt (EqAt RcAt)
/-! ### == of data -/
mutual
def RdD (h : Heap) : D → Value → Prop
  | .non, u => u = .none
  | .bl b, u => u = .bool b
  | .int i, u => ∃ t, u = .int i t
  | .str x, u => ∃ t, u = .str x t
  | .tup ds, u => ∃ a items, u = .ref a ∧ h.IsTuple a items ∧ RdDs h ds items.toList
  | .lst ds, u => ∃ a items, u = .ref a ∧ h.IsList a items ∧ RdDs h ds items.toList
  | _, _ => False
def RdDs (h : Heap) : List D → List Value → Prop
  | [], us => us = []
  | d :: ds, us => ∃ u r, us = u :: r ∧ RdD h d u ∧ RdDs h ds r
end
mutual
def eqD : D → D → Bool
  | .non, .non => true
  | .bl a, .bl b => a == b
  | .bl a, .int j => (if a then 1 else 0) == j
  | .int i, .bl b => i == (if b then 1 else 0)
  | .int i, .int j => i == j
  | .str x, .str y => x == y
  | .lst xs, .lst ys => eqDs xs ys
  | .tup xs, .tup ys => eqDs xs ys
  | _, _ => false
def eqDs : List D → List D → Bool
  | [], [] => true
  | x :: xs, y :: ys => eqD x y && eqDs xs ys
  | _, _ => false
end
/-- of nesting at most n, no dicts, no objects -/
def eqable : Nat → D → Bool
  | _, .non => true
  | _, .bl _ => true
  | _, .int _ => true
  | _, .str _ => true
  | n + 1, .tup ds => ds.all (eqable n)
  | n + 1, .lst ds => ds.all (eqable n)
  | _, _ => false
section
variable {X : Cx} {pins : List (Addr × Obj)} {σ : L2.St} {H : Hp} {s : Shared} {F : Addr → Prop}
mutual
theorem Rep.rd (I : Inv X pins σ H s) : ∀ (n : Nat) (d : D) (v : V) (u : Value), eqable n d = true → Rep X.K F H d v → RelV v u → RdD s.heap d u
  | n, .non, v, u, e, r, q => by
    unfold Rep at r; subst r
    unfold RdD
    exact q
  | n, .bl b, v, u, e, r, q => by
    unfold Rep at r; subst r
    unfold RdD
    exact q
  | n, .int i, v, u, e, r, q => by
    unfold Rep at r; subst r
    unfold RdD
    exact q
  | n, .str x, v, u, e, r, q => by
    unfold Rep at r; subst r
    unfold RdD
    exact q
  | 0, .tup ds, v, u, e, r, q => by simp [eqable] at e
  | 0, .lst ds, v, u, e, r, q => by simp [eqable] at e
  | n + 1, .tup ds, v, u, e, r, q => by
    unfold Rep at r
    obtain ⟨a, vs, rfl, t, rl⟩ := r
    cases (show u = Value.ref a from q)
    obtain ⟨its, rv, pl, hz⟩ := I.tuple t.sq
    unfold RdD
    exact ⟨a, its.toArray, rfl, pl, Rep.rds I n ds vs its (by unfold eqable at e; exact e) rl rv⟩
  | n + 1, .lst ds, v, u, e, r, q => by
    unfold Rep at r
    obtain ⟨a, vs, rfl, t, rl⟩ := r
    cases (show u = Value.ref a from q)
    obtain ⟨its, rv, pl, hz⟩ := I.list t.sq
    unfold RdD
    exact ⟨a, its.toArray, rfl, pl.isList, Rep.rds I n ds vs its (by unfold eqable at e; exact e) rl rv⟩
  | n, .fn a, v, u, e, r, q => by simp [eqable] at e
  | n, .dct a, v, u, e, r, q => by simp [eqable] at e
  | n, .obj a b, v, u, e, r, q => by simp [eqable] at e
theorem Rep.rds (I : Inv X pins σ H s) : ∀ (n : Nat) (ds : List D) (vs : List V) (us : List Value), ds.all (eqable n) = true → RepL X.K F H ds vs → Vals vs us → RdDs s.heap ds us
  | n, [], vs, us, e, r, q => by
    unfold RepL at r; subst r
    cases q
    unfold RdDs
    rfl
  | n, d :: ds, vs, us, e, r, q => by
    unfold RepL at r
    obtain ⟨v, t, rfl, x, y⟩ := r
    rw [List.all_cons, Bool.and_eq_true] at e
    cases q with
    | cons q1 q2 =>
      unfold RdDs
      exact ⟨_, _, rfl, Rep.rd I n d v _ e.1 x q1, Rep.rds I n ds t _ e.2 y q2⟩
end
end
theorem RdDs.length {h : Heap} : ∀ {ds : List D} {us : List Value}, RdDs h ds us → us.length = ds.length
  | [], us, r => by unfold RdDs at r; subst r; rfl
  | d :: ds, us, r => by
    unfold RdDs at r
    obtain ⟨u, t, rfl, _, y⟩ := r
    simp [RdDs.length y]
theorem tup_uniq {h : Heap} {a : Addr} {x y : Array Value} (p : h.IsTuple a x) (q : h.IsTuple a y) : x = y := by
  obtain ⟨o, ho, hc, n, hd⟩ := p
  obtain ⟨o2, ho2, hc2, n2, hd2⟩ := q
  rw [ho] at ho2
  cases ho2
  rw [hd] at hd2
  cases hd2
  rfl
theorem lst_uniq {h : Heap} {a : Addr} {x y : Array Value} (p : h.IsList a x) (q : h.IsList a y) : x = y := by
  obtain ⟨o, ho, hc, n, hd⟩ := p
  obtain ⟨o2, ho2, hc2, n2, hd2⟩ := q
  rw [ho] at ho2
  cases ho2
  rw [hd] at hd2
  cases hd2
  rfl
theorem lst_not_tup {h : Heap} {a : Addr} {x y : Array Value} (p : h.IsList a x) (q : h.IsTuple a y) : False := by
  obtain ⟨o, ho, hc, n, hd⟩ := p
  obtain ⟨o2, ho2, hc2, n2, hd2⟩ := q
  rw [ho] at ho2
  cases ho2
  rw [hc] at hc2
  simp at hc2
mutual
theorem RdD.uniq {h : Heap} : ∀ (d e : D) (u : Value), RdD h d u → RdD h e u → d = e
  | .non, e, u, p, q => by
    unfold RdD at p
    subst p
    cases e <;> simp [RdD] at q
    rfl
  | .bl b, e, u, p, q => by
    unfold RdD at p
    subst p
    cases e <;> simp [RdD] at q
    rw [q]
  | .int i, e, u, p, q => by
    unfold RdD at p
    obtain ⟨t, rfl⟩ := p
    cases e <;> simp [RdD] at q
    rw [q]
  | .str x, e, u, p, q => by
    unfold RdD at p
    obtain ⟨t, rfl⟩ := p
    cases e <;> simp [RdD] at q
    rw [q]
  | .tup ds, e, u, p, q => by
    unfold RdD at p
    obtain ⟨a, it, rfl, t, r⟩ := p
    cases e <;> simp [RdD] at q
    · obtain ⟨it2, t2, r2⟩ := q
      cases tup_uniq t t2
      rw [RdDs.uniq _ _ _ r r2]
    · obtain ⟨it2, t2, r2⟩ := q
      exact (lst_not_tup t2 t).elim
  | .lst ds, e, u, p, q => by
    unfold RdD at p
    obtain ⟨a, it, rfl, t, r⟩ := p
    cases e <;> simp [RdD] at q
    · obtain ⟨it2, t2, r2⟩ := q
      exact (lst_not_tup t t2).elim
    · obtain ⟨it2, t2, r2⟩ := q
      cases lst_uniq t t2
      rw [RdDs.uniq _ _ _ r r2]
  | .fn a, e, u, p, q => by unfold RdD at p; exact p.elim
  | .dct a, e, u, p, q => by unfold RdD at p; exact p.elim
  | .obj a b, e, u, p, q => by unfold RdD at p; exact p.elim
theorem RdDs.uniq {h : Heap} : ∀ (ds es : List D) (us : List Value), RdDs h ds us → RdDs h es us → ds = es
  | [], es, us, p, q => by
    unfold RdDs at p
    subst p
    cases es with
    | nil => rfl
    | cons => unfold RdDs at q; obtain ⟨_, _, e, _⟩ := q; cases e
  | d :: ds, es, us, p, q => by
    unfold RdDs at p
    obtain ⟨u, r, rfl, x, y⟩ := p
    cases es with
    | nil => unfold RdDs at q; cases q
    | cons e es =>
      unfold RdDs at q
      obtain ⟨u', r', e1, x', y'⟩ := q
      cases e1
      rw [RdD.uniq d e u x x', RdDs.uniq ds es r y y']
end
mutual
theorem eqD_refl : ∀ d : D, (∃ n, eqable n d = true) → eqD d d = true
  | .non, _ => by simp [eqD]
  | .bl b, _ => by simp [eqD]
  | .int i, _ => by simp [eqD]
  | .str x, _ => by simp [eqD]
  | .tup ds, ⟨n, h⟩ => by
    unfold eqD
    cases n with
    | zero => simp [eqable] at h
    | succ n => exact eqDs_refl ds ⟨n, by unfold eqable at h; exact h⟩
  | .lst ds, ⟨n, h⟩ => by
    unfold eqD
    cases n with
    | zero => simp [eqable] at h
    | succ n => exact eqDs_refl ds ⟨n, by unfold eqable at h; exact h⟩
  | .fn a, ⟨n, h⟩ => by simp [eqable] at h
  | .dct a, ⟨n, h⟩ => by simp [eqable] at h
  | .obj a b, ⟨n, h⟩ => by simp [eqable] at h
theorem eqDs_refl : ∀ ds : List D, (∃ n, ds.all (eqable n) = true) → eqDs ds ds = true
  | [], _ => by simp [eqDs]
  | d :: ds, ⟨n, h⟩ => by
    rw [List.all_cons, Bool.and_eq_true] at h
    unfold eqDs
    rw [eqD_refl d ⟨n, h.1⟩, eqDs_refl ds ⟨n, h.2⟩]
    rfl
end
def pairD (xs ys : List D) (j : Nat) : Bool := match xs[j]?, ys[j]? with
  | some x, some y => eqD x y
  | _, _ => false
theorem eqDs_eq : ∀ xs ys : List D, ((List.range (min xs.length ys.length)).all (pairD xs ys) && xs.length == ys.length) = eqDs xs ys
  | [], [] => by simp [eqDs]
  | [], y :: ys => by simp [eqDs]
  | x :: xs, [] => by simp [eqDs]
  | x :: xs, y :: ys => by
    unfold eqDs
    rw [← eqDs_eq xs ys, List.length_cons, List.length_cons, Nat.succ_min_succ, List.range_succ_eq_map, List.all_cons, List.all_map]
    have e : (pairD (x :: xs) (y :: ys) ∘ Nat.succ) = pairD xs ys := by
      funext j
      simp [pairD, Function.comp]
    rw [e]
    have e0 : pairD (x :: xs) (y :: ys) 0 = eqD x y := by simp [pairD]
    rw [e0, Bool.and_assoc]
    congr 1
    congr 1
    exact Bool.eq_iff_iff.mpr (by simp)
theorem eqDs_same {xs ys : List D} (h : xs.length = ys.length) : (List.range xs.length).all (pairD xs ys) = eqDs xs ys := by
  rw [← eqDs_eq xs ys, h, Nat.min_self]
  simp
theorem eqDs_other {xs ys : List D} (h : xs.length ≠ ys.length) : eqDs xs ys = false := by
  rw [← eqDs_eq xs ys]
  simp [h]
mutual
theorem eqAt_D : ∀ (n : Nat) (a b : D) (A : Around) (s : Shared) (u w : Value), RdD s.heap a u → RdD s.heap b w → eqable n a = true → eqable n b = true → A.units + n < cLine → EqAt A s u w (eqD a b)
  | n, .non, b, A, s, u, w, ra, rb, ea, eb, hu => by
    unfold RdD at ra
    subst ra
    have hu : A.units < cLine := by omega
    cases b <;> simp only [RdD] at rb
    · subst rb; unfold eqD; exact EqAt.same _
    · subst rb; unfold eqD; exact EqAt.none_bool _
    · obtain ⟨t, rfl⟩ := rb; unfold eqD; exact EqAt.none_int _ _
    · obtain ⟨t, rfl⟩ := rb; unfold eqD; exact EqAt.none_str _ _
    · obtain ⟨l, it, rfl, hl, _⟩ := rb; unfold eqD; exact EqAt.none_tuple hl hu
    · obtain ⟨l, it, rfl, hl, _⟩ := rb; unfold eqD; exact EqAt.none_list hl hu
  | n, .bl x, b, A, s, u, w, ra, rb, ea, eb, hu => by
    unfold RdD at ra
    subst ra
    have hu : A.units < cLine := by omega
    cases b <;> simp only [RdD] at rb
    · subst rb; unfold eqD; exact EqAt.bool_none _
    · subst rb; unfold eqD; exact EqAt.bool_bool _ _
    · obtain ⟨t, rfl⟩ := rb; unfold eqD; exact EqAt.bool_int _ _ _
    · obtain ⟨t, rfl⟩ := rb; unfold eqD; exact EqAt.bool_str _ _ _
    · obtain ⟨l, it, rfl, hl, _⟩ := rb; unfold eqD; exact EqAt.bool_tuple _ hl hu
    · obtain ⟨l, it, rfl, hl, _⟩ := rb; unfold eqD; exact EqAt.bool_list _ hl hu
  | n, .int x, b, A, s, u, w, ra, rb, ea, eb, hu => by
    unfold RdD at ra
    obtain ⟨t0, rfl⟩ := ra
    have hu : A.units < cLine := by omega
    cases b <;> simp only [RdD] at rb
    · subst rb; unfold eqD; exact EqAt.int_none _ _
    · subst rb; unfold eqD; exact EqAt.int_bool _ _ _
    · obtain ⟨t, rfl⟩ := rb; unfold eqD; exact EqAt.int_int _ _ _ _
    · obtain ⟨t, rfl⟩ := rb; unfold eqD; exact EqAt.int_str _ _ _ _
    · obtain ⟨l, it, rfl, hl, _⟩ := rb; unfold eqD; exact EqAt.int_tuple _ _ hl hu
    · obtain ⟨l, it, rfl, hl, _⟩ := rb; unfold eqD; exact EqAt.int_list _ _ hl hu
  | n, .str x, b, A, s, u, w, ra, rb, ea, eb, hu => by
    unfold RdD at ra
    obtain ⟨t0, rfl⟩ := ra
    have hu : A.units < cLine := by omega
    cases b <;> simp only [RdD] at rb
    · subst rb; unfold eqD; exact EqAt.str_none _ _
    · subst rb; unfold eqD; exact EqAt.str_bool _ _ _
    · obtain ⟨t, rfl⟩ := rb; unfold eqD; exact EqAt.str_int _ _ _ _
    · obtain ⟨t, rfl⟩ := rb; unfold eqD; exact EqAt.str_str _ _ _ _
    · obtain ⟨l, it, rfl, hl, _⟩ := rb; unfold eqD; exact EqAt.str_tuple _ _ hl hu
    · obtain ⟨l, it, rfl, hl, _⟩ := rb; unfold eqD; exact EqAt.str_list _ _ hl hu
  | 0, .tup xs, b, A, s, u, w, ra, rb, ea, eb, hu => by simp [eqable] at ea
  | 0, .lst xs, b, A, s, u, w, ra, rb, ea, eb, hu => by simp [eqable] at ea
  | n + 1, .tup xs, b, A, s, u, w, ra, rb, ea, eb, hu' => by
    have ra0 := ra
    have rb0 := rb
    unfold RdD at ra
    obtain ⟨l, vs, rfl, hl, r1⟩ := ra
    have hu : A.units < cLine := by omega
    cases b <;> simp only [RdD] at rb
    · subst rb; unfold eqD; exact EqAt.tuple_none hl hu
    · subst rb; unfold eqD; exact EqAt.tuple_bool _ hl hu
    · obtain ⟨t, rfl⟩ := rb; unfold eqD; exact EqAt.tuple_int _ _ hl hu
    · obtain ⟨t, rfl⟩ := rb; unfold eqD; exact EqAt.tuple_str _ _ hl hu
    · rename_i ys
      obtain ⟨l', vs', rfl, hl', r2⟩ := rb
      by_cases e : l = l'
      · subst e
        have := RdD.uniq _ _ _ ra0 rb0
        cases this
        rw [eqD_refl _ ⟨_, ea⟩]
        exact EqAt.same _
      · unfold eqD
        have n1 : vs.size = xs.length := by simpa using RdDs.length r1
        have n2 : vs'.size = ys.length := by simpa using RdDs.length r2
        rw [← eqDs_eq xs ys, ← n1, ← n2]
        refine EqAt.of_refs e (RcAt.tuples hl hl' hu fun j j1 j2 => ?_)
        have := eqAt_Ds n xs ys A.in1 s vs.toList vs'.toList r1 r2 (by unfold eqable at ea; exact ea) (by unfold eqable at eb; exact eb) (by show A.units + 1 + n < cLine; omega) j (by simpa using j1) (by simpa using j2)
        simpa using this
    · obtain ⟨l', it, rfl, hl', _⟩ := rb; unfold eqD; exact EqAt.tuple_list hl hl' hu
  | n + 1, .lst xs, b, A, s, u, w, ra, rb, ea, eb, hu' => by
    have ra0 := ra
    have rb0 := rb
    unfold RdD at ra
    obtain ⟨l, vs, rfl, hl, r1⟩ := ra
    have hu : A.units < cLine := by omega
    cases b <;> simp only [RdD] at rb
    · subst rb; unfold eqD; exact EqAt.list_none hl hu
    · subst rb; unfold eqD; exact EqAt.list_bool _ hl hu
    · obtain ⟨t, rfl⟩ := rb; unfold eqD; exact EqAt.list_int _ _ hl hu
    · obtain ⟨t, rfl⟩ := rb; unfold eqD; exact EqAt.list_str _ _ hl hu
    · obtain ⟨l', it, rfl, hl', _⟩ := rb; unfold eqD; exact EqAt.list_tuple hl hl' hu
    · rename_i ys
      obtain ⟨l', vs', rfl, hl', r2⟩ := rb
      by_cases e : l = l'
      · subst e
        have := RdD.uniq _ _ _ ra0 rb0
        cases this
        rw [eqD_refl _ ⟨_, ea⟩]
        exact EqAt.same _
      · unfold eqD
        have n1 : vs.size = xs.length := by simpa using RdDs.length r1
        have n2 : vs'.size = ys.length := by simpa using RdDs.length r2
        have he : ∀ j (j1 : j < vs.size) (j2 : j < vs'.size), EqAt A.in1 s vs[j] vs'[j] (pairD xs ys j) := fun j j1 j2 => by
          have := eqAt_Ds n xs ys A.in1 s vs.toList vs'.toList r1 r2 (by unfold eqable at ea; exact ea) (by unfold eqable at eb; exact eb) (by show A.units + 1 + n < cLine; omega) j (by simpa using j1) (by simpa using j2)
          simpa using this
        by_cases hsz : vs.size = vs'.size
        · rw [← eqDs_same (by omega : xs.length = ys.length), ← n1]
          exact EqAt.of_refs e (RcAt.lists hl hl' hsz hu he)
        · rw [eqDs_other (by omega : xs.length ≠ ys.length)]
          exact EqAt.of_refs e (RcAt.lists_lengths hl hl' (by simpa using hsz) hu)
  | n, .fn a, b, A, s, u, w, ra, rb, ea, eb, hu => by simp [eqable] at ea
  | n, .dct a, b, A, s, u, w, ra, rb, ea, eb, hu => by simp [eqable] at ea
  | n, .obj a c, b, A, s, u, w, ra, rb, ea, eb, hu => by simp [eqable] at ea
theorem eqAt_Ds : ∀ (n : Nat) (xs ys : List D) (A : Around) (s : Shared) (vs ws : List Value), RdDs s.heap xs vs → RdDs s.heap ys ws → xs.all (eqable n) = true → ys.all (eqable n) = true → A.units + n < cLine →
    ∀ j (h1 : j < vs.length) (h2 : j < ws.length), EqAt A s vs[j] ws[j] (pairD xs ys j)
  | n, [], ys, A, s, vs, ws, ra, rb, ea, eb, hu, j, h1, h2 => by unfold RdDs at ra; subst ra; exact absurd h1 (Nat.not_lt_zero _)
  | n, x :: xs, [], A, s, vs, ws, ra, rb, ea, eb, hu, j, h1, h2 => by unfold RdDs at rb; subst rb; exact absurd h2 (Nat.not_lt_zero _)
  | n, x :: xs, y :: ys, A, s, vs, ws, ra, rb, ea, eb, hu, j, h1, h2 => by
    unfold RdDs at ra rb
    obtain ⟨u, r, rfl, x1, y1⟩ := ra
    obtain ⟨u', r', rfl, x2, y2⟩ := rb
    rw [List.all_cons, Bool.and_eq_true] at ea eb
    cases j with
    | zero =>
      have e0 : pairD (x :: xs) (y :: ys) 0 = eqD x y := by simp [pairD]
      rw [e0]
      exact eqAt_D n x y A s _ _ x1 x2 ea.1 eb.1 hu
    | succ j =>
      have e0 : pairD (x :: xs) (y :: ys) (j + 1) = pairD xs ys j := by simp [pairD]
      rw [e0]
      exact eqAt_Ds n xs ys A s r r' y1 y2 ea.2 eb.2 hu j (Nat.lt_of_succ_lt_succ h1) (Nat.lt_of_succ_lt_succ h2)
end
end FL

namespace FL
open PySem PySem.Spec PyProof.Rows L2
open PySem.SeqAt (EqAt RcAt)
/-! ### looks at data -/
def lsD : M × D → Option (List D)
  | (.f, .lst xs) => some xs
  | (.o .f, .lst xs) => some xs
  | _ => none
def tpD : M × D → Option (List D)
  | (.f, .tup xs) => some xs
  | _ => none
def inD : M × D → Option Int
  | (.f, .int i) => some i
  | _ => none
def stD : M × D → Option Str
  | (.f, .str i) => some i
  | _ => none
def dcD : M × D → Option (List (D × D))
  | (.f, .dct xs) => some xs
  | (.o .f, .dct xs) => some xs
  | _ => none
section
variable {K : PySem.W.Frag} {F : Addr → Prop} {H : Hp} {a : M × D} {v : V} {q : List Addr}
theorem lsD_rd {xs : List D} (h : lsD a = some xs) (r : RepO K F H a.1 a.2 v q) : ∃ p vs, v = .ref p ∧ Rd H p (.lst vs) ∧ RepL K F H xs vs := by
  obtain ⟨m, d⟩ := a
  cases m with
  | f =>
    cases d <;> simp [lsD] at h
    subst h
    have := rep_f r
    unfold Rep at this
    obtain ⟨p, vs, e, t, l⟩ := this
    exact ⟨p, vs, e, t.2, l⟩
  | o c =>
    cases c <;> cases d <;> simp [lsD] at h
    subst h
    unfold RepO at r
    obtain ⟨p, vs, fr, e, t, _, _, l⟩ := r
    exact ⟨p, vs, e, .inl t, (RepOs.unfrz l).2⟩
  | r ms => cases d <;> simp [lsD] at h
theorem lsD_rep {xs : List D} (h : lsD a = some xs) (r : RepO K F H a.1 a.2 v q) : ∃ p vs, v = .ref p ∧ SqL K H p vs ∧ RepL K F H xs vs := by
  obtain ⟨p, vs, e, t, l⟩ := lsD_rd h r
  exact ⟨p, vs, e, .inl t, l⟩
theorem tpD_rep {xs : List D} (h : tpD a = some xs) (r : RepO K F H a.1 a.2 v q) : ∃ p vs, v = .ref p ∧ SqT K H p vs ∧ RepL K F H xs vs := by
  obtain ⟨m, d⟩ := a
  cases m <;> cases d <;> simp [tpD] at h
  subst h
  have := rep_f r
  unfold Rep at this
  obtain ⟨p, vs, e, t, l⟩ := this
  exact ⟨p, vs, e, t.sq, l⟩
theorem inD_rep {i : Int} (h : inD a = some i) (r : RepO K F H a.1 a.2 v q) : v = .int i := by
  obtain ⟨m, d⟩ := a
  cases m <;> cases d <;> simp [inD] at h
  subst h
  have := rep_f r
  unfold Rep at this
  exact this
theorem stD_rep {i : Str} (h : stD a = some i) (r : RepO K F H a.1 a.2 v q) : v = .str i := by
  obtain ⟨m, d⟩ := a
  cases m <;> cases d <;> simp [stD] at h
  subst h
  have := rep_f r
  unfold Rep at this
  exact this
theorem RepK.of_own : ∀ {kvs : List (D × D)} {gs : List (Key × V)} {q : List Addr}, kvs.map (·.1) = gs.map (fun p => dK p.1) → RepOs (RepO K F H .f) (kvs.map (·.2)) (gs.map (·.2)) q → RepK K F H kvs gs
  | [], gs, q, e, r => by
    unfold RepK
    cases gs with
    | nil => rfl
    | cons => simp at e
  | (k, d) :: kvs, gs, q, e, r => by
    cases gs with
    | nil => simp at e
    | cons p gs =>
      obtain ⟨k', v'⟩ := p
      simp only [List.map_cons, List.cons.injEq] at e r
      obtain ⟨w, t, f1, f2, e1, e2, dj, x, y⟩ := r
      cases e1
      unfold RepK
      exact ⟨k', v', gs, rfl, e.1, rep_f x, RepK.of_own e.2 y⟩
theorem RepK.to_own : ∀ {kvs : List (D × D)} {gs : List (Key × V)}, RepK K F H kvs gs → kvs.map (·.1) = gs.map (fun p => dK p.1) ∧ RepOs (RepO K F H .f) (kvs.map (·.2)) (gs.map (·.2)) []
  | [], gs, r => by
    unfold RepK at r
    subst r
    exact ⟨rfl, rfl, rfl⟩
  | (k, d) :: kvs, gs, r => by
    unfold RepK at r
    obtain ⟨k', v, t, rfl, rfl, x, y⟩ := r
    obtain ⟨e, z⟩ := RepK.to_own y
    refine ⟨by simp [e], v, _, [], [], rfl, rfl, (fun a m => nomatch m), ?_, z⟩
    unfold RepO
    exact ⟨rfl, x⟩
theorem dcD_rep {kvs : List (D × D)} (h : dcD a = some kvs) (r : RepO K F H a.1 a.2 v q) : ∃ p gs, v = .ref p ∧ Rd H p (.dK gs) ∧ RepK K F H kvs gs := by
  obtain ⟨m, d⟩ := a
  cases m with
  | f =>
    cases d <;> simp [dcD] at h
    subst h
    have := rep_f r
    unfold Rep at this
    obtain ⟨p, vs, od, e, _, t, l⟩ := this
    exact ⟨p, vs, e, .inr ⟨od, t⟩, l⟩
  | o c =>
    cases c <;> cases d <;> simp [dcD] at h
    subst h
    unfold RepO at r
    obtain ⟨p, vs, fr, e, t, _, _, ek, l⟩ := r
    exact ⟨p, vs, e, .inl t, RepK.of_own ek l⟩
  | r ms => cases d <;> simp [dcD] at h
/-! ### handing on -/
theorem Hands.pure {d : D} {Q : VK} (h : Hands K F H .f d Q) (lv : ∀ a, F a → ∃ o, H a = some o) (r : Rep K F H d v) : Q v H :=
  h v H F [] (Ext.refl F H lv) (by unfold RepO; exact ⟨rfl, r⟩) fun a m => nomatch m
theorem Hands.bl {b : Bool} {Q : VK} (h : Hands K F H .f (.bl b) Q) (lv : ∀ a, F a → ∃ o, H a = some o) : Q (.bl b) H := h.pure lv (by unfold Rep; rfl)
theorem Hands.int {b : Int} {Q : VK} (h : Hands K F H .f (.int b) Q) (lv : ∀ a, F a → ∃ o, H a = some o) : Q (.int b) H := h.pure lv (by unfold Rep; rfl)
theorem Hands.str {b : Str} {Q : VK} (h : Hands K F H .f (.str b) Q) (lv : ∀ a, F a → ∃ o, H a = some o) : Q (.str b) H := h.pure lv (by unfold Rep; rfl)
end
/-! ### one or the other -/
def orO (g g' : M × D → M × D → Option (M × D)) : M × D → M × D → Option (M × D) := fun a b => (g a b).or (g' a b)
theorem OpM.or {K : PySem.W.Frag} {r r' : R2} {g g' : M × D → M × D → Option (M × D)} (h : OpM K r g) (h' : OpM K r' g') : OpM K (fun x y H Q => r x y H Q ∨ r' x y H Q) (orO g g') := by
  intro F H x y a b q q' m d Q lv ra rb e k
  unfold orO at e
  cases eg : g a b with
  | none =>
    rw [eg, Option.none_or] at e
    exact .inr (h' F H x y a b q q' m d Q lv ra rb e k)
  | some z =>
    rw [eg, Option.some_or] at e
    cases e
    exact .inl (h F H x y a b q q' m d Q lv ra rb eg k)
def orA (g g' : List (M × D) → Option (M × D)) : List (M × D) → Option (M × D) := fun a => (g a).or (g' a)
theorem OpA.or {K : PySem.W.Frag} {r r' : List V → Hp → VK → Prop} {g g' : List (M × D) → Option (M × D)} (h : OpA K r g) (h' : OpA K r' g') : OpA K (fun x H Q => r x H Q ∨ r' x H Q) (orA g g') := by
  intro F H vs as m d Q lv ra e k
  unfold orA at e
  cases eg : g as with
  | none =>
    rw [eg, Option.none_or] at e
    exact .inr (h' F H vs as m d Q lv ra e k)
  | some z =>
    rw [eg, Option.some_or] at e
    cases e
    exact .inl (h F H vs as m d Q lv ra eg k)
/-! ### two operands -/
def on2 {α β : Type} (f : M × D → Option α) (g : M × D → Option β) (k : α → β → Option (M × D)) : M × D → M × D → Option (M × D) := fun a b => (f a).bind fun x => (g b).bind fun y => k x y
theorem on2_some {α β : Type} {f : M × D → Option α} {g : M × D → Option β} {k : α → β → Option (M × D)} {a b : M × D} {r : M × D} (h : on2 f g k a b = some r) : ∃ x y, f a = some x ∧ g b = some y ∧ k x y = some r := by
  obtain ⟨x, hx, h⟩ := Option.bind_eq_some_iff.mp h
  obtain ⟨y, hy, h⟩ := Option.bind_eq_some_iff.mp h
  exact ⟨x, y, hx, hy, h⟩
def ifO (c : Bool) (d : D) : Option (M × D) := if c then some (.f, d) else none
theorem ifO_some {c : Bool} {d : D} {r : M × D} (h : ifO c d = some r) : c = true ∧ r = (.f, d) := by
  unfold ifO at h
  split at h
  · rename_i hc
    cases h
    exact ⟨hc, rfl⟩
  · cases h
section
variable {K : PySem.W.Frag}
theorem om_int {C : Int → Int → Prop} {c : Int → Int → Bool} {g : Int → Int → Int} (hc : ∀ i j, c i j = true → C i j) : OpM K (rI C fun i j => .int (g i j)) (on2 inD inD fun i j => ifO (c i j) (.int (g i j))) := by
  intro F H x y a b q q' m d Q lv ra rb e k
  obtain ⟨i, j, hi, hj, e⟩ := on2_some e
  obtain ⟨h1, e⟩ := ifO_some e
  cases e
  exact ⟨i, j, inD_rep hi ra, inD_rep hj rb, hc i j h1, k.int lv⟩
theorem om_int0 {g : Int → Int → Int} : OpM K (rI0 fun i j => .int (g i j)) (on2 inD inD fun i j => some (.f, .int (g i j))) := by
  intro F H x y a b q q' m d Q lv ra rb e k
  obtain ⟨i, j, hi, hj, e⟩ := on2_some e
  cases e
  exact ⟨i, j, inD_rep hi ra, inD_rep hj rb, k.int lv⟩
theorem om_intB {g : Int → Int → Bool} : OpM K (rI0 fun i j => .bl (g i j)) (on2 inD inD fun i j => some (.f, .bl (g i j))) := by
  intro F H x y a b q q' m d Q lv ra rb e k
  obtain ⟨i, j, hi, hj, e⟩ := on2_some e
  cases e
  exact ⟨i, j, inD_rep hi ra, inD_rep hj rb, k.bl lv⟩
end
theorem RepL.append {K : PySem.W.Frag} {F : Addr → Prop} {H : Hp} : ∀ {xs ys : List D} {us vs : List V}, RepL K F H xs us → RepL K F H ys vs → RepL K F H (xs ++ ys) (us ++ vs)
  | [], ys, us, vs, h1, h2 => by
    unfold RepL at h1
    subst h1
    exact h2
  | x :: xs, ys, us, vs, h1, h2 => by
    unfold RepL at h1
    obtain ⟨v, r, rfl, a, b⟩ := h1
    show RepL K F H (x :: (xs ++ ys)) (v :: (r ++ vs))
    unfold RepL
    exact ⟨v, _, rfl, a, RepL.append b h2⟩
theorem RepL.take {K : PySem.W.Frag} {F : Addr → Prop} {H : Hp} : ∀ {xs : List D} {us : List V} (n : Nat), RepL K F H xs us → RepL K F H (xs.take n) (us.take n)
  | [], us, n, h => by
    unfold RepL at h
    subst h
    simp
    unfold RepL
    rfl
  | x :: xs, us, 0, h => by
    simp
    unfold RepL
    rfl
  | x :: xs, us, n + 1, h => by
    unfold RepL at h
    obtain ⟨v, r, rfl, a, b⟩ := h
    show RepL K F H (x :: xs.take n) (v :: r.take n)
    unfold RepL
    exact ⟨v, _, rfl, a, RepL.take n b⟩
theorem RepL.drop {K : PySem.W.Frag} {F : Addr → Prop} {H : Hp} : ∀ {xs : List D} {us : List V} (n : Nat), RepL K F H xs us → RepL K F H (xs.drop n) (us.drop n)
  | [], us, n, h => by
    unfold RepL at h
    subst h
    simp
    unfold RepL
    rfl
  | x :: xs, us, 0, h => h
  | x :: xs, us, n + 1, h => by
    unfold RepL at h
    obtain ⟨v, r, rfl, a, b⟩ := h
    exact RepL.drop n b
theorem RepL.flat {K : PySem.W.Frag} {F : Addr → Prop} {H : Hp} {xs : List D} {us : List V} (h : RepL K F H xs us) : ∀ (n : Nat), RepL K F H (List.replicate n xs).flatten (List.replicate n us).flatten
  | 0 => by
    simp
    unfold RepL
    rfl
  | n + 1 => by
    rw [List.replicate_succ, List.replicate_succ, List.flatten_cons, List.flatten_cons]
    exact RepL.append h (RepL.flat h n)
def szO (n : Nat) : Bool := decide (n ≤ 16777216)
theorem szO_ok {n : Nat} (h : szO n = true) : n ≤ sizeLine := by rw [sizeLine_eq]; exact of_decide_eq_true h
section
variable {K : PySem.W.Frag}
def newL (c : Bool) (xs : List D) : Option (M × D) := if c then some (.o .f, .lst xs) else none
theorem newL_some {c : Bool} {d : List D} {r : M × D} (h : newL c d = some r) : c = true ∧ r = (.o .f, .lst d) := by
  unfold newL at h
  split at h
  · rename_i hc
    cases h
    exact ⟨hc, rfl⟩
  · cases h
theorem om_addS : OpM K (fun x y H Q => ∃ i j, x = .str i ∧ y = .str j ∧ i.length + j.length ≤ sizeLine ∧ Q (.str (i ++ j)) H) (on2 stD stD fun i j => ifO (szO (i.length + j.length)) (.str (i ++ j))) := by
  intro F H x y a b q q' m d Q lv ra rb e k
  obtain ⟨i, j, hi, hj, e⟩ := on2_some e
  obtain ⟨h1, e⟩ := ifO_some e
  cases e
  exact ⟨i, j, stD_rep hi ra, stD_rep hj rb, szO_ok h1, k.str lv⟩
/-- list + list, read or one's own (the kit's op_cat asks lists one may write) -/
def rCatR : R2 := fun x y H Q => ∃ l b xs zs, x = .ref l ∧ y = .ref b ∧ Rd H l (.lst xs) ∧ Rd H b (.lst zs) ∧ xs.length + zs.length ≤ sizeLine ∧ ∀ p, H p = none → Q (.ref p) (upd H p (.lst (xs ++ zs)))
theorem op_catR {X : Cx} : OpR X (binaryOp .Add) rCatR := by
  intro pins s σ H x y v u Q I rx ry h
  obtain ⟨l, b, xs, zs, rfl, rfl, hH, hB, hz, q⟩ := h
  cases rx
  cases ry
  obtain ⟨z, its, n, r, e⟩ := hH.ok I.hok
  obtain ⟨z2, its2, n2, r2, e2⟩ := hB.ok I.hok
  have l1 := r.length
  have l2 := r2.length
  refine PySem.P.add_list e e2 ?_ (by rw [List.size_toArray, List.size_toArray]; omega)
  have ea : its.toArray ++ its2.toArray = (its ++ its2).toArray := by simp
  rw [ea]
  exact ⟨.ref _, _, I.lnew (t' := s.toks) (r.append r2) (by rw [List.length_append]; omega), rfl, q _ I.fresh⟩
theorem om_catL : OpM K rCatR (on2 lsD lsD fun xs ys => newL (szO (xs.length + ys.length)) (xs ++ ys)) := by
  intro F H x y a b q q' m d Q lv ra rb e k
  obtain ⟨i, j, hi, hj, e⟩ := on2_some e
  obtain ⟨h1, e⟩ := newL_some e
  cases e
  obtain ⟨p, vs, e1, s1, r1⟩ := lsD_rd hi ra
  obtain ⟨p2, vs2, e2, s2, r2⟩ := lsD_rd hj rb
  exact ⟨p, p2, vs, vs2, e1, e2, s1, s2, by rw [← r1.len, ← r2.len]; exact szO_ok h1, fun z hz => hands_lst lv hz (r1.append r2) k⟩
theorem om_catT : OpM K (rCatA K) (on2 tpD tpD fun xs ys => ifO (szO (xs.length + ys.length)) (.tup (xs ++ ys))) := by
  intro F H x y a b q q' m d Q lv ra rb e k
  obtain ⟨i, j, hi, hj, e⟩ := on2_some e
  obtain ⟨h1, e⟩ := ifO_some e
  cases e
  obtain ⟨p, vs, e1, s1, r1⟩ := tpD_rep hi ra
  obtain ⟨p2, vs2, e2, s2, r2⟩ := tpD_rep hj rb
  refine ⟨p, p2, vs, vs2, e1, e2, s1, s2, by rw [← r1.len, ← r2.len]; exact szO_ok h1, fun z => ?_, fun _ z => ?_, fun _ _ z hz => hands_tup lv hz (r1.append r2) k⟩
  · have : i = [] := by
      have := r1.len
      rw [z] at this
      exact List.length_eq_zero_iff.mp (by simpa using this)
    rw [this, List.nil_append] at k
    obtain ⟨m1, d1⟩ := b
    cases m1 <;> cases d1 <;> simp [tpD] at hj
    subst hj
    have rr := rep_f rb
    rw [e2] at rr
    exact k.pure lv rr
  · have : j = [] := by
      have := r2.len
      rw [z] at this
      exact List.length_eq_zero_iff.mp (by simpa using this)
    rw [this, List.append_nil] at k
    obtain ⟨m1, d1⟩ := a
    cases m1 <;> cases d1 <;> simp [tpD] at hi
    subst hi
    have rr := rep_f ra
    rw [e1] at rr
    exact k.pure lv rr
/-- a + b -/
def addD : M × D → M × D → Option (M × D) := orO (on2 inD inD fun i j => some (.f, .int (i + j))) (orO (on2 stD stD fun i j => ifO (szO (i.length + j.length)) (.str (i ++ j)))
  (orO (on2 lsD lsD fun xs ys => newL (szO (xs.length + ys.length)) (xs ++ ys)) (on2 tpD tpD fun xs ys => ifO (szO (xs.length + ys.length)) (.tup (xs ++ ys)))))
def subD : M × D → M × D → Option (M × D) := on2 inD inD fun i j => some (.f, .int (i - j))
def smallI (i : Int) : Bool := decide (-(2 ^ 64) < i) && decide (i < 2 ^ 64)
def mulD : M × D → M × D → Option (M × D) := orO (on2 inD inD fun i j => ifO (smallI i || smallI j) (.int (i * j)))
  (on2 lsD inD fun xs k => newL (decide (-(2 ^ 63) ≤ k) && decide (k < 2 ^ 63) && szO (xs.length * k.toNat)) (List.replicate k.toNat xs).flatten)
def fdivD : M × D → M × D → Option (M × D) := on2 inD inD fun i j => ifO (decide (0 < j) && decide (j < 1073741824)) (.int (i / j))
def modD : M × D → M × D → Option (M × D) := on2 inD inD fun i j => ifO (decide (0 < j)) (.int (i % j))
def powD : M × D → M × D → Option (M × D) := on2 inD inD fun i j => ifO (decide (0 ≤ j) && decide (j ≤ 1000000) && decide (i.natAbs < 2 ^ 64)) (.int (i ^ j.toNat))
end
section
variable {X : Cx} {W : WX} {a b : Expr} {Ta Tb : List Sl → EO} {pos : Pos}
theorem fe_bin {op : Operator} {r : R2} {g : M × D → M × D → Option (M × D)} (ho : OpR X (binaryOp op) r) (hm : OpM X.K r g) (ha : FE X W a Ta) (hb : FE X W b Tb) : FE X W (.BinOp a op b pos) (use2 g Ta Tb) := fe_use2 hm (pe_op ho ha hb)
theorem fe_add (ha : FE X W a Ta) (hb : FE X W b Tb) : FE X W (.BinOp a .Add b pos) (use2 addD Ta Tb) :=
  fe_bin (op_add.or (op_add_str.or (op_catR.or op_catA))) (om_int0.or (om_addS.or (om_catL.or om_catT))) ha hb
theorem fe_sub (ha : FE X W a Ta) (hb : FE X W b Tb) : FE X W (.BinOp a .Sub b pos) (use2 subD Ta Tb) := fe_bin op_sub om_int0 ha hb
end
end FL

namespace FL
open PySem PySem.Spec PyProof.Rows L2
open PySem.SeqAt (EqAt RcAt)
def lsO : M × D → Option (List D)
  | (.o .f, .lst xs) => some xs
  | _ => none
section
variable {K : PySem.W.Frag} {F : Addr → Prop} {H : Hp} {a : M × D} {v : V} {q : List Addr}
theorem lsO_rep {xs : List D} (h : lsO a = some xs) (r : RepO K F H a.1 a.2 v q) : ∃ p vs, v = .ref p ∧ H p = some (.lst vs) ∧ RepL K F H xs vs := by
  obtain ⟨m, d⟩ := a
  cases m with
  | o c =>
    cases c <;> cases d <;> simp [lsO] at h
    subst h
    unfold RepO at r
    obtain ⟨p, vs, fr, e, t, _, _, l⟩ := r
    exact ⟨p, vs, e, t, (RepOs.unfrz l).2⟩
  | _ => cases d <;> simp [lsO] at h
end
section
variable {K : PySem.W.Frag}
def repD : M × D → M × D → Option (M × D) := on2 lsO inD fun xs k => newL (decide (-(2 ^ 63) ≤ k) && decide (k < 2 ^ 63) && szO (xs.length * k.toNat)) (List.replicate k.toNat xs).flatten
def mulS (z : Str) (k : Int) : Str := ⟨(List.replicate k.toNat z.cps.toList).flatten.toArray⟩
def mulSD : M × D → M × D → Option (M × D) := on2 stD inD fun z k => ifO (decide (-(2 ^ 63) ≤ k) && decide (k < 2 ^ 63) && szO (z.length * k.toNat)) (.str (mulS z k))
def mulDD : M × D → M × D → Option (M × D) := orO (on2 inD inD fun i j => ifO (smallI i || smallI j) (.int (i * j))) (orO repD mulSD)
theorem om_rep : OpM K rRep repD := by
  intro F H x y a b q q' m d Q lv ra rb e k
  obtain ⟨i, j, hi, hj, e⟩ := on2_some e
  obtain ⟨h1, e⟩ := newL_some e
  cases e
  simp only [Bool.and_eq_true, decide_eq_true_eq] at h1
  obtain ⟨p, vs, e1, s1, r1⟩ := lsO_rep hi ra
  exact ⟨p, j, vs, e1, inD_rep hj rb, s1, h1.1.1, h1.1.2, by rw [← r1.len]; exact szO_ok h1.2, fun z hz => hands_lst lv hz (r1.flat _) k⟩
end
/-- a text times an int -/
def rMulS : R2 := fun x y H Q => ∃ z k, x = .str z ∧ y = .int k ∧ -(2 ^ 63) ≤ k ∧ k < 2 ^ 63 ∧ z.length * k.toNat ≤ sizeLine ∧ Q (.str (mulS z k)) H
theorem foldl_rep (a : Array Nat) : ∀ (n : Nat) (acc : Array Nat), ((List.replicate n a).foldl (· ++ ·) acc).toList = acc.toList ++ (List.replicate n a.toList).flatten
  | 0, acc => by simp
  | n + 1, acc => by
    rw [List.replicate_succ, List.foldl_cons, foldl_rep a n, List.replicate_succ]
    simp
theorem mulS_length (z : Str) (k : Int) : (mulS z k).length = z.length * k.toNat := by
  show (mulS z k).cps.size = z.cps.size * k.toNat
  unfold mulS
  simp [Nat.mul_comm]
theorem op_mulS {X : Cx} : OpR X (binaryOp .Mult) rMulS := by
  intro pins s σ H x y v u Q I rx ry h
  obtain ⟨z, k, rfl, rfl, h1, h2, hz, q⟩ := h
  obtain ⟨t, rfl⟩ := rx
  obtain ⟨t', rfl⟩ := ry
  have hq : ∀ w : Str, w = mulS z k → Q (.str w) H := fun w e => e ▸ q
  refine PySem.P.mul_str ?_ ?_ ?_ ?_
  · have a : ¬ k < -(2 ^ 63 : Int) := by omega
    have b : ¬ k ≥ 2 ^ 63 := by omega
    rw [decide_eq_false a, decide_eq_false b]
    rfl
  · intro hk hn hgt
    have hk0 : 0 < k := by omega
    have hb : (z.length : Int) * k ≤ 16777216 := by
      have e : (k.toNat : Int) = k := Int.toNat_of_nonneg (by omega)
      have : ((z.length * k.toNat : Nat) : Int) ≤ 16777216 := by
        have : z.length * k.toNat ≤ 16777216 := hz
        omega
      rw [Int.natCast_mul, e] at this
      exact this
    have h3 : (2 ^ 63 - 1) / k < (z.length : Int) := hgt
    have h4 : (2 ^ 63 - 1 : Int) < (z.length : Int) * k := by
      exact Int.lt_mul_of_ediv_lt hk0 h3
    omega
  · intro hk hn
    show decide (z.length * k.toNat > sizeLine) = false
    exact decide_eq_false (Nat.not_lt.mpr hz)
  · by_cases hk : k < 1
    · rw [if_pos hk]
      refine ⟨by decide, .str _, H, I.tok _, ⟨_, rfl⟩, hq _ ?_⟩
      have : k.toNat = 0 := by omega
      unfold mulS
      rw [this]
      rfl
    · rw [if_neg hk]
      by_cases hn : (k == 1 || z.length == 0) = true
      · rw [if_pos hn]
        refine ⟨.str z, H, I, ⟨t, rfl⟩, hq _ ?_⟩
        rw [Bool.or_eq_true, beq_iff_eq, beq_iff_eq] at hn
        rcases hn with rfl | hn
        · unfold mulS
          simp
        · cases z with | mk a =>
          have : a = #[] := Array.eq_empty_of_size_eq_zero hn
          subst this
          unfold mulS
          simp
      · rw [if_neg hn]
        have e : (⟨(List.replicate k.toNat z.cps).foldl (· ++ ·) #[]⟩ : Str) = mulS z k := by
          unfold mulS
          congr 1
          apply Array.toList_inj.mp
          rw [foldl_rep]
          simp
        rw [e]
        refine ⟨?_, .str _, H, I.tok _, ⟨_, rfl⟩, q⟩
        rw [mulS_length]
        exact hz
theorem om_mulS {K : PySem.W.Frag} : OpM K rMulS mulSD := by
  intro F H x y a b q q' m d Q lv ra rb e k
  obtain ⟨i, j, hi, hj, e⟩ := on2_some e
  obtain ⟨h1, e⟩ := ifO_some e
  cases e
  simp only [Bool.and_eq_true, decide_eq_true_eq] at h1
  exact ⟨i, j, stD_rep hi ra, inD_rep hj rb, h1.1.1, h1.1.2, szO_ok h1.2, k.str lv⟩
section
variable {X : Cx} {W : WX} {a b : Expr} {Ta Tb : List Sl → EO} {pos : Pos}
theorem fe_mul (ha : FE X W a Ta) (hb : FE X W b Tb) : FE X W (.BinOp a .Mult b pos) (use2 mulDD Ta Tb) :=
  fe_bin (op_mul.or (op_rep.or op_mulS)) ((om_int fun i j h => by
    rw [Bool.or_eq_true] at h
    unfold smallI at h
    simp only [Bool.and_eq_true, decide_eq_true_eq] at h
    exact h).or (om_rep.or om_mulS)) ha hb
theorem fe_fdiv (ha : FE X W a Ta) (hb : FE X W b Tb) : FE X W (.BinOp a .FloorDiv b pos) (use2 fdivD Ta Tb) :=
  fe_bin op_fdiv (om_int fun i j h => by simp only [Bool.and_eq_true, decide_eq_true_eq] at h; exact h) ha hb
theorem fe_mod (ha : FE X W a Ta) (hb : FE X W b Tb) : FE X W (.BinOp a .Mod b pos) (use2 modD Ta Tb) :=
  fe_bin op_mod (om_int fun i j h => by simp only [decide_eq_true_eq] at h; exact h) ha hb
theorem fe_pow (ha : FE X W a Ta) (hb : FE X W b Tb) : FE X W (.BinOp a .Pow b pos) (use2 powD Ta Tb) :=
  fe_bin op_pow (om_int fun i j h => by simp only [Bool.and_eq_true, decide_eq_true_eq] at h; exact ⟨h.1.1, h.1.2, h.2⟩) ha hb
end
/-! ### comparisons -/
section
variable {X : Cx} {W : WX} {a b c : Expr} {Ta Tb Tc : List Sl → EO} {pos : Pos} {op op' : CmpOp} {r r' : R2} {g g' : M × D → M × D → Option (M × D)}
/-- a rule for a comparison -/
structure CmpF (X : Cx) (op : CmpOp) (g : M × D → M × D → Option (M × D)) : Prop where
  ex : ∃ r, OpR X (compareOp op) r ∧ OpM X.K r g
theorem fe_cmp (h : CmpF X op g) (ha : FE X W a Ta) (hb : FE X W b Tb) (hm : behindInMarks op b = false := by first | exact nobehind _ (by decide) (by decide) | rfl) : FE X W (.Compare a [op] [b] pos) (use2 g Ta Tb) := by
  obtain ⟨r, ho, hr⟩ := h.ex
  exact fe_use2 hr (pe_cmpR ho ha hb hm)
theorem ft_cmpF (h : CmpF X op g) (ha : FE X W a Ta) (hb : FE X W b Tb) (hm : behindInMarks op b = false := by first | exact nobehind _ (by decide) (by decide) | rfl) : FT X W (.Compare a [op] [b] pos) (isB (use2 g Ta Tb)) := by
  obtain ⟨r, ho, hr⟩ := h.ex
  refine ft_isB (PT.imp (pt_cmpR ho ha hb hm) fun σ H Q h => ?_)
  have : FE X W (.Compare a [op] [b] pos) (use2 g Ta Tb) := fe_use2 hr (pe_cmpR ho ha hb hm)
  exact use2_t hr h
/-- a op b op' c -/
def chainE (g g' : M × D → M × D → Option (M × D)) (Ta Tb Tc : List Sl → EO) : List Sl → EO := fun ρ => (Ta ρ).bind fun p1 k1 m1 d1 ρ1 => (Tb ρ1).bind fun p2 k2 m2 d2 ρ2 =>
  match ((curR p2 ρ2 k1 m1 d1).bind fun a => (curR true ρ2 k2 m2 d2).bind fun b => g a b) with
  | some (.f, .bl true) => (Tc ρ2).bind fun p3 k3 m3 d3 ρ3 => .val (p1 && p2 && p3) ρ3 ((curR p3 ρ3 k2 m2 d2).bind fun b => (curR true ρ3 k3 m3 d3).bind fun c => g' b c)
  | some (.f, .bl false) => .ok (p1 && p2) .t .f (.bl false) ρ2
  | _ => .no
theorem chain_t {K : PySem.W.Frag} (h1 : OpM K r g) (h2 : OpM K r' g') {σ : L2.St} {H : Hp} {Q : VK} (h : tE K W (chainE g g' Ta Tb Tc) σ H Q) : tChain r r' (tE K W Ta) (tE K W Tb) (tE K W Tc) σ H Q := by
  obtain ⟨G, st, ρ, I, h⟩ := h
  refine ⟨G, st, ρ, I, Aft.bind h (Over.refl st) fun p1 k1 m1 d1 ρ1 ex1 h v H1 I1 => ?_⟩
  refine ⟨G, _, ρ1, I1, Aft.bind h ((Over.refl st).cons _ p1) fun p2 k2 m2 d2 ρ2 ex2 h u H2 I2 => ?_⟩
  cases ec : ((curR p2 ρ2 k1 m1 d1).bind fun a => (curR true ρ2 k2 m2 d2).bind fun b => g a b) with
  | none => simp only [ec] at h; exact h.elim
  | some z =>
    obtain ⟨zm, zd⟩ := z
    cases zm with
    | o c => simp only [ec] at h; exact h.elim
    | r ms => simp only [ec] at h; exact h.elim
    | f =>
      cases zd with
      | bl kb =>
        obtain ⟨a, ea, e1⟩ := Option.bind_eq_some_iff.mp ec
        obtain ⟨b, eb, e1⟩ := Option.bind_eq_some_iff.mp e1
        rw [dims_cons, dims_dims] at I2
        obtain ⟨F, fp, I3⟩ := I2
        obtain ⟨q, r1⟩ := I3.rep (j := 1) rfl (mkI_cur ea)
        obtain ⟨q', r2⟩ := I3.rep (j := 0) rfl (mkI_cur (p := true) eb)
        have hv : (if p2 then mkI k1 m1 d1 v else (mkI k1 m1 d1 v).dim).val = v := mkI_val ea
        have hu : (mkI k2 m2 d2 u).val = u := mkI_val (p := true) eb
        rw [hv] at r1
        rw [hu] at r2
        refine h1 F H2 v u a b q q' .f (.bl kb) _ I3.lv r1 r2 e1 fun z H3 F3 q3 ext rz _ => ?_
        have ez := rep_bl rz
        subst ez
        have I4 := I3.ext ext
        refine ⟨kb, rfl, ?_⟩
        cases kb with
        | false =>
          simp only [ec] at h
          rw [if_neg Bool.false_ne_true]
          exact h _ _ (I4.pop.pop.pushNew (Ext.refl _ H3 I4.lv) repO_bl fun a m => nomatch m)
        | true =>
          simp only [ec] at h
          rw [if_pos rfl]
          have o3 : Over K (mkI k2 m2 d2 u :: (if p2 then mkI k1 m1 d1 v else (mkI k1 m1 d1 v).dim) :: FL.dims (p1 && p2) st) st := fun G ρ σ H P hh => by
            rw [dims_cons, dims_cons, dims_dims, Bool.and_false] at hh
            exact hh.drop2.drop2
          refine ⟨G, _, ρ2, ⟨_, _, I4⟩, Aft.bind h o3 fun p3 k3 m3 d3 ρ3 ex3 h w H5 I5 => ?_⟩
          obtain ⟨m', d', e2, h⟩ := val_aft h
          obtain ⟨b', eb', e2⟩ := Option.bind_eq_some_iff.mp e2
          obtain ⟨c', ec', e2⟩ := Option.bind_eq_some_iff.mp e2
          rw [dims_cons, dims_cons, dims_dims] at I5
          obtain ⟨F5, fp5, I5⟩ := I5
          obtain ⟨q5, r5⟩ := I5.rep (j := 1) rfl (mkI_cur eb')
          obtain ⟨q6, r6⟩ := I5.rep (j := 0) rfl (mkI_cur (p := true) ec')
          have hv5 : (if p3 then mkI k2 m2 d2 u else (mkI k2 m2 d2 u).dim).val = u := mkI_val eb'
          have hu6 : (mkI k3 m3 d3 w).val = w := mkI_val (p := true) ec'
          rw [hv5] at r5
          rw [hu6] at r6
          exact h2 F5 H5 u w b' c' q5 q6 m' d' Q I5.lv r5 r6 e2 (I5.pop.pop.pop.hands h)
      | _ => simp only [ec] at h; exact h.elim
theorem fe_chain (h : CmpF X op g) (h' : CmpF X op' g') (ha : FE X W a Ta) (hb : FE X W b Tb) (hc : FE X W c Tc) (hm : lastMarks [op, op'] [b, c] = false := by with_unfolding_all rfl) : FE X W (.Compare a [op, op'] [b, c] pos) (chainE g g' Ta Tb Tc) := by
  obtain ⟨r, ho, hr⟩ := h.ex
  obtain ⟨r', ho', hr'⟩ := h'.ex
  exact PE.imp (pe_chain ho ho' ha hb hc hm) fun _ _ _ h => chain_t hr hr' h
theorem ft_chain (h : CmpF X op g) (h' : CmpF X op' g') (ha : FE X W a Ta) (hb : FE X W b Tb) (hc : FE X W c Tc) (hm : lastMarks [op, op'] [b, c] = false := by with_unfolding_all rfl) : FT X W (.Compare a [op, op'] [b, c] pos) (isB (chainE g g' Ta Tb Tc)) := by
  obtain ⟨r, ho, hr⟩ := h.ex
  obtain ⟨r', ho', hr'⟩ := h'.ex
  exact ft_isB (PT.imp (pt_chain ho ho' ha hb hc hm) fun _ _ _ h => chain_t hr hr' h)
end
/-! the comparisons -/
def ltD : M × D → M × D → Option (M × D) := on2 inD inD fun i j => some (.f, .bl (decide (i < j)))
def leD : M × D → M × D → Option (M × D) := on2 inD inD fun i j => some (.f, .bl (decide (i ≤ j)))
def gtD : M × D → M × D → Option (M × D) := on2 inD inD fun i j => some (.f, .bl (decide (j < i)))
def geD : M × D → M × D → Option (M × D) := on2 inD inD fun i j => some (.f, .bl (decide (j ≤ i)))
def rdO : M × D → Option D
  | (.f, d) => some d
  | (.o .f, .lst xs) => some (.lst xs)
  | _ => none
theorem rdO_rep {K : PySem.W.Frag} {F : Addr → Prop} {H : Hp} {a : M × D} {v : V} {q : List Addr} {d : D} (h : rdO a = some d) (r : RepO K F H a.1 a.2 v q) : Rep K (Plus F q) H d v := by
  obtain ⟨m, e⟩ := a
  cases m with
  | f =>
    simp [rdO] at h
    subst h
    exact Rep.mono (fun a h => .inl h) (fun a o _ h => h) _ _ (rep_f r)
  | o c =>
    cases c <;> cases e <;> simp [rdO] at h
    subst h
    exact RepO.frozen (fun a h => .inl h) _ _ _ _ (by simp [noD]) r fun a h => .inr h
  | r ms => cases e <;> simp [rdO] at h
def eqO (f : Bool → Bool) : M × D → M × D → Option (M × D) := on2 rdO rdO fun a b => ifO (eqable 60 a && eqable 60 b) (.bl (f (eqD a b)))
def eqDD := eqO id
def neDD := eqO not
def rEqX (K : PySem.W.Frag) (f : Bool → Bool) : R2 := fun x y H Q => ∃ F a b, Rep K F H a x ∧ Rep K F H b y ∧ eqable 60 a = true ∧ eqable 60 b = true ∧ Q (.bl (f (eqD a b))) H
theorem Rep.any {K : PySem.W.Frag} {F : Addr → Prop} {H : Hp} {d : D} {v : V} (r : Rep K F H d v) : Rep K (fun _ => True) H d v := Rep.mono (fun _ _ => trivial) (fun _ _ _ h => h) d v r
theorem om_eq {K : PySem.W.Frag} {f : Bool → Bool} : OpM K (rEqX K f) (eqO f) := by
  intro F H x y a b q q' m d Q lv ra rb e k
  obtain ⟨i, j, hi, hj, e⟩ := on2_some e
  obtain ⟨h1, e⟩ := ifO_some e
  cases e
  rw [Bool.and_eq_true] at h1
  exact ⟨fun _ => True, i, j, (rdO_rep hi ra).any, (rdO_rep hj rb).any, h1.1, h1.2, k.bl lv⟩
theorem rcAt_D {A : Around} {s : Shared} {u w : Value} {a b : D} (ra : RdD s.heap a u) (rb : RdD s.heap b w) (ea : eqable 60 a = true) (eb : eqable 60 b = true) (hu : A.units + 60 < cLine) : RcAt A s u w (eqD a b) := by
  have hu0 : A.units < cLine := by omega
  cases a <;> simp only [RdD] at ra
  · subst ra
    cases b <;> simp only [RdD] at rb <;> unfold eqD
    · subst rb; exact RcAt.none_none
    · subst rb; exact RcAt.none_bool _
    · obtain ⟨t, rfl⟩ := rb; exact RcAt.none_int _ _
    · obtain ⟨t, rfl⟩ := rb; exact RcAt.none_str _ _
    · obtain ⟨l, it, rfl, hl, _⟩ := rb; exact RcAt.none_tuple hl hu0
    · obtain ⟨l, it, rfl, hl, _⟩ := rb; exact RcAt.none_list hl hu0
  · subst ra
    cases b <;> simp only [RdD] at rb <;> unfold eqD
    · subst rb; exact RcAt.bool_none _
    · subst rb; exact RcAt.bool_bool _ _
    · obtain ⟨t, rfl⟩ := rb; exact RcAt.bool_int _ _ _
    · obtain ⟨t, rfl⟩ := rb; exact RcAt.bool_str _ _ _
    · obtain ⟨l, it, rfl, hl, _⟩ := rb; exact RcAt.bool_tuple _ hl hu0
    · obtain ⟨l, it, rfl, hl, _⟩ := rb; exact RcAt.bool_list _ hl hu0
  · obtain ⟨t0, rfl⟩ := ra
    cases b <;> simp only [RdD] at rb <;> unfold eqD
    · subst rb; exact RcAt.int_none _ _
    · subst rb; exact RcAt.int_bool _ _ _
    · obtain ⟨t, rfl⟩ := rb; exact RcAt.int_int _ _ _ _
    · obtain ⟨t, rfl⟩ := rb; exact RcAt.int_str _ _ _ _
    · obtain ⟨l, it, rfl, hl, _⟩ := rb; exact RcAt.int_tuple _ _ hl hu0
    · obtain ⟨l, it, rfl, hl, _⟩ := rb; exact RcAt.int_list _ _ hl hu0
  · obtain ⟨t0, rfl⟩ := ra
    cases b <;> simp only [RdD] at rb <;> unfold eqD
    · subst rb; exact RcAt.str_none _ _
    · subst rb; exact RcAt.str_bool _ _ _
    · obtain ⟨t, rfl⟩ := rb; exact RcAt.str_int _ _ _ _
    · obtain ⟨t, rfl⟩ := rb; exact RcAt.str_str _ _ _ _
    · obtain ⟨l, it, rfl, hl, _⟩ := rb; exact RcAt.str_tuple _ _ hl hu0
    · obtain ⟨l, it, rfl, hl, _⟩ := rb; exact RcAt.str_list _ _ hl hu0
  · obtain ⟨l, vs, rfl, hl, r1⟩ := ra
    rename_i xs
    cases b <;> simp only [RdD] at rb <;> unfold eqD
    · subst rb; exact RcAt.tuple_none hl hu0
    · subst rb; exact RcAt.tuple_bool _ hl hu0
    · obtain ⟨t, rfl⟩ := rb; exact RcAt.tuple_int _ _ hl hu0
    · obtain ⟨t, rfl⟩ := rb; exact RcAt.tuple_str _ _ hl hu0
    · obtain ⟨l', vs', rfl, hl', r2⟩ := rb
      rename_i ys
      have n1 : vs.size = xs.length := by simpa using RdDs.length r1
      have n2 : vs'.size = ys.length := by simpa using RdDs.length r2
      rw [← eqDs_eq xs ys, ← n1, ← n2]
      refine RcAt.tuples hl hl' hu0 fun j j1 j2 => ?_
      have := eqAt_Ds 59 xs ys A.in1 s vs.toList vs'.toList r1 r2 (by unfold eqable at ea; exact ea) (by unfold eqable at eb; exact eb) (by show A.units + 1 + 59 < cLine; omega) j (by simpa using j1) (by simpa using j2)
      simpa using this
    · obtain ⟨l', it, rfl, hl', _⟩ := rb; exact RcAt.tuple_list hl hl' hu0
  · obtain ⟨l, vs, rfl, hl, r1⟩ := ra
    rename_i xs
    cases b <;> simp only [RdD] at rb <;> unfold eqD
    · subst rb; exact RcAt.list_none hl hu0
    · subst rb; exact RcAt.list_bool _ hl hu0
    · obtain ⟨t, rfl⟩ := rb; exact RcAt.list_int _ _ hl hu0
    · obtain ⟨t, rfl⟩ := rb; exact RcAt.list_str _ _ hl hu0
    · obtain ⟨l', it, rfl, hl', _⟩ := rb; exact RcAt.list_tuple hl hl' hu0
    · obtain ⟨l', vs', rfl, hl', r2⟩ := rb
      rename_i ys
      have n1 : vs.size = xs.length := by simpa using RdDs.length r1
      have n2 : vs'.size = ys.length := by simpa using RdDs.length r2
      have he : ∀ j (j1 : j < vs.size) (j2 : j < vs'.size), EqAt A.in1 s vs[j] vs'[j] (pairD xs ys j) := fun j j1 j2 => by
        have := eqAt_Ds 59 xs ys A.in1 s vs.toList vs'.toList r1 r2 (by unfold eqable at ea; exact ea) (by unfold eqable at eb; exact eb) (by show A.units + 1 + 59 < cLine; omega) j (by simpa using j1) (by simpa using j2)
        simpa using this
      by_cases hsz : vs.size = vs'.size
      · rw [← eqDs_same (by omega : xs.length = ys.length), ← n1]
        exact RcAt.lists hl hl' hsz hu0 he
      · rw [eqDs_other (by omega : xs.length ≠ ys.length)]
        exact RcAt.lists_lengths hl hl' (by simpa using hsz) hu0
section
variable {X : Cx}
theorem op_eqX (hu : X.A.units + 64 < cLine) : OpR X (compareOp .Eq) (rEqX X.K id) := by
  intro pins s σ H x y v u Q I rx ry h
  obtain ⟨F, a, b, ha, hb, ea, eb, q⟩ := h
  exact rcAt_D (Rep.rd I 60 a x v ea ha rx) (Rep.rd I 60 b y u eb hb ry) ea eb (by omega) X.prog X.w X.xe _ ⟨.bl _, H, I, rfl, q⟩
end
end FL

namespace FL
open PySem PySem.Spec PyProof.Rows L2
open PySem.SeqAt (EqAt RcAt RcNeAt)
theorem rcNeAt_D {A : Around} {s : Shared} {u w : Value} {a b : D} (ra : RdD s.heap a u) (rb : RdD s.heap b w) (ea : eqable 60 a = true) (eb : eqable 60 b = true) (hu : A.units + 60 < cLine) : RcNeAt A s u w (!eqD a b) := by
  have hu0 : A.units < cLine := by omega
  cases a <;> simp only [RdD] at ra
  · subst ra
    cases b <;> simp only [RdD] at rb <;> unfold eqD
    · subst rb; exact RcNeAt.none_none
    · subst rb; exact RcNeAt.none_bool _
    · obtain ⟨t, rfl⟩ := rb; exact RcNeAt.none_int _ _
    · obtain ⟨t, rfl⟩ := rb; exact RcNeAt.none_str _ _
    · obtain ⟨l, it, rfl, hl, _⟩ := rb; exact RcNeAt.none_tuple hl hu0
    · obtain ⟨l, it, rfl, hl, _⟩ := rb; exact RcNeAt.none_list hl hu0
  · subst ra
    cases b <;> simp only [RdD] at rb <;> unfold eqD
    · subst rb; exact RcNeAt.bool_none _
    · subst rb; exact RcNeAt.bool_bool _ _
    · obtain ⟨t, rfl⟩ := rb; exact RcNeAt.bool_int _ _ _
    · obtain ⟨t, rfl⟩ := rb; exact RcNeAt.bool_str _ _ _
    · obtain ⟨l, it, rfl, hl, _⟩ := rb; exact RcNeAt.bool_tuple _ hl hu0
    · obtain ⟨l, it, rfl, hl, _⟩ := rb; exact RcNeAt.bool_list _ hl hu0
  · obtain ⟨t0, rfl⟩ := ra
    cases b <;> simp only [RdD] at rb <;> unfold eqD
    · subst rb; exact RcNeAt.int_none _ _
    · subst rb; exact RcNeAt.int_bool _ _ _
    · obtain ⟨t, rfl⟩ := rb; exact RcNeAt.int_int _ _ _ _
    · obtain ⟨t, rfl⟩ := rb; exact RcNeAt.int_str _ _ _ _
    · obtain ⟨l, it, rfl, hl, _⟩ := rb; exact RcNeAt.int_tuple _ _ hl hu0
    · obtain ⟨l, it, rfl, hl, _⟩ := rb; exact RcNeAt.int_list _ _ hl hu0
  · obtain ⟨t0, rfl⟩ := ra
    cases b <;> simp only [RdD] at rb <;> unfold eqD
    · subst rb; exact RcNeAt.str_none _ _
    · subst rb; exact RcNeAt.str_bool _ _ _
    · obtain ⟨t, rfl⟩ := rb; exact RcNeAt.str_int _ _ _ _
    · obtain ⟨t, rfl⟩ := rb; exact RcNeAt.str_str _ _ _ _
    · obtain ⟨l, it, rfl, hl, _⟩ := rb; exact RcNeAt.str_tuple _ _ hl hu0
    · obtain ⟨l, it, rfl, hl, _⟩ := rb; exact RcNeAt.str_list _ _ hl hu0
  · obtain ⟨l, vs, rfl, hl, r1⟩ := ra
    rename_i xs
    cases b <;> simp only [RdD] at rb <;> unfold eqD
    · subst rb; exact RcNeAt.tuple_none hl hu0
    · subst rb; exact RcNeAt.tuple_bool _ hl hu0
    · obtain ⟨t, rfl⟩ := rb; exact RcNeAt.tuple_int _ _ hl hu0
    · obtain ⟨t, rfl⟩ := rb; exact RcNeAt.tuple_str _ _ hl hu0
    · obtain ⟨l', vs', rfl, hl', r2⟩ := rb
      rename_i ys
      have n1 : vs.size = xs.length := by simpa using RdDs.length r1
      have n2 : vs'.size = ys.length := by simpa using RdDs.length r2
      rw [← eqDs_eq xs ys, ← n1, ← n2]
      refine RcNeAt.tuples hl hl' hu0 fun j j1 j2 => ?_
      have := eqAt_Ds 59 xs ys A.in1 s vs.toList vs'.toList r1 r2 (by unfold eqable at ea; exact ea) (by unfold eqable at eb; exact eb) (by show A.units + 1 + 59 < cLine; omega) j (by simpa using j1) (by simpa using j2)
      simpa using this
    · obtain ⟨l', it, rfl, hl', _⟩ := rb; exact RcNeAt.tuple_list hl hl' hu0
  · obtain ⟨l, vs, rfl, hl, r1⟩ := ra
    rename_i xs
    cases b <;> simp only [RdD] at rb <;> unfold eqD
    · subst rb; exact RcNeAt.list_none hl hu0
    · subst rb; exact RcNeAt.list_bool _ hl hu0
    · obtain ⟨t, rfl⟩ := rb; exact RcNeAt.list_int _ _ hl hu0
    · obtain ⟨t, rfl⟩ := rb; exact RcNeAt.list_str _ _ hl hu0
    · obtain ⟨l', it, rfl, hl', _⟩ := rb; exact RcNeAt.list_tuple hl hl' hu0
    · obtain ⟨l', vs', rfl, hl', r2⟩ := rb
      rename_i ys
      have n1 : vs.size = xs.length := by simpa using RdDs.length r1
      have n2 : vs'.size = ys.length := by simpa using RdDs.length r2
      have he : ∀ j (j1 : j < vs.size) (j2 : j < vs'.size), EqAt A.in1 s vs[j] vs'[j] (pairD xs ys j) := fun j j1 j2 => by
        have := eqAt_Ds 59 xs ys A.in1 s vs.toList vs'.toList r1 r2 (by unfold eqable at ea; exact ea) (by unfold eqable at eb; exact eb) (by show A.units + 1 + 59 < cLine; omega) j (by simpa using j1) (by simpa using j2)
        simpa using this
      by_cases hsz : vs.size = vs'.size
      · rw [← eqDs_same (by omega : xs.length = ys.length), ← n1]
        exact RcNeAt.lists hl hl' hsz hu0 he
      · rw [eqDs_other (by omega : xs.length ≠ ys.length)]
        exact RcNeAt.lists_lengths hl hl' (by simpa using hsz) hu0

theorem Room.u64 {k : Nat} {A : Around} (r : Room k A) : A.units + 65 < cLine := by have := r.un; omega
section
variable {X : Cx} {k : Nat}
theorem op_neX (hu : X.A.units + 64 < cLine) : OpR X (compareOp .NotEq) (rEqX X.K not) := by
  intro pins s σ H x y v u Q I rx ry h
  obtain ⟨F, a, b, ha, hb, ea, eb, q⟩ := h
  exact rcNeAt_D (Rep.rd I 60 a x v ea ha rx) (Rep.rd I 60 b y u eb hb ry) ea eb (by omega) X.prog X.w X.xe _ ⟨.bl _, H, I, rfl, q⟩
theorem c_eq (hu : X.A.units + 65 < cLine) : CmpF X .Eq eqDD := ⟨_, op_eqX (by omega), om_eq⟩
theorem c_ne (hu : X.A.units + 65 < cLine) : CmpF X .NotEq neDD := ⟨_, op_neX (by omega), om_eq⟩
theorem c_lt : CmpF X .Lt ltD := ⟨_, op_lt, om_intB⟩
theorem c_le : CmpF X .LtE leD := ⟨_, op_le, om_intB⟩
theorem c_gt : CmpF X .Gt gtD := ⟨_, op_gt, om_intB⟩
theorem c_ge : CmpF X .GtE geD := ⟨_, op_ge, om_intB⟩
/-! is None -/
def isNonD : M × D → Bool
  | (.f, .non) => true
  | _ => false
def isD (f : Bool → Bool) : M × D → M × D → Option (M × D)
  | a, (.f, .non) => some (.f, .bl (f (isNonD a)))
  | _, _ => none
theorem isNon_ok {K : PySem.W.Frag} {F : Addr → Prop} {H : Hp} {a : M × D} {v : V} {q : List Addr} (r : RepO K F H a.1 a.2 v q) : decide (v = V.non) = isNonD a := by
  obtain ⟨m, d⟩ := a
  cases m with
  | f =>
    have r := rep_f r
    cases d <;> simp only [Rep] at r
    · subst r; rfl
    · subst r; rfl
    · subst r; rfl
    · subst r; rfl
    · subst r; rfl
    · obtain ⟨_, _, rfl, _⟩ := r; rfl
    · obtain ⟨_, _, rfl, _⟩ := r; rfl
    · obtain ⟨_, _, _, rfl, _⟩ := r; rfl
    · obtain ⟨_, _, _, rfl, _⟩ := r; rfl
  | o c =>
    cases d <;> unfold RepO at r <;> first | exact r.elim | skip
    · obtain ⟨_, _, _, rfl, _⟩ := r; rfl
    · obtain ⟨_, _, _, rfl, _⟩ := r; rfl
    · obtain ⟨_, _, _, rfl, _⟩ := r; rfl
  | r ms =>
    cases d <;> unfold RepO at r <;> first | exact r.elim | skip
    obtain ⟨_, _, _, _, rfl, _⟩ := r; rfl
theorem isD_at {f : Bool → Bool} {a b r : M × D} (h : isD f a b = some r) : b = (.f, .non) ∧ r = (.f, .bl (f (isNonD a))) := by
  obtain ⟨m, d⟩ := b
  cases m <;> cases d <;> simp [isD] at h
  exact ⟨rfl, h.symm⟩
theorem om_is {K : PySem.W.Frag} : OpM K (fun x y H Q => y = .non ∧ Q (.bl (decide (x = .non))) H) (isD id) := by
  intro F H x y a b q q' m d Q lv ra rb e k
  obtain ⟨e1, e2⟩ := isD_at e
  subst e1
  cases e2
  have := rep_f rb
  unfold Rep at this
  exact ⟨this, by rw [isNon_ok ra]; exact k.bl lv⟩
theorem om_isnot {K : PySem.W.Frag} : OpM K (fun x y H Q => y = .non ∧ Q (.bl (!decide (x = .non))) H) (isD not) := by
  intro F H x y a b q q' m d Q lv ra rb e k
  obtain ⟨e1, e2⟩ := isD_at e
  subst e1
  cases e2
  have := rep_f rb
  unfold Rep at this
  exact ⟨this, by rw [isNon_ok ra]; exact k.bl lv⟩
theorem c_is : CmpF X .Is (isD id) := ⟨_, op_isN, om_is⟩
theorem c_isnot : CmpF X .IsNot (isD not) := ⟨_, op_notN, om_isnot⟩
/-! in: texts, lists and tuples of data, dicts -/
def occB (i j : Str) : Bool := !(Builtin.Str.occurrences j i 0 j.length 1).isEmpty
def sqD (a : M × D) : Option (List D) := (lsD a).or (tpD a)
def inSeq (f : Bool → Bool) : M × D → M × D → Option (M × D) := on2 rdO sqD fun x ys => ifO (eqable 59 x && ys.all (eqable 59)) (.bl (f (ys.any fun y => eqD y x)))
def inStr (f : Bool → Bool) : M × D → M × D → Option (M × D) := on2 stD stD fun i j => some (.f, .bl (f (occB i j)))
def valD (kvs : List (D × D)) (k : D) : Option D := (kvs.find? fun kv => decide (kv.1 = k)).map (·.2)
def kyO : M × D → Option Key
  | (.f, d) => keyOf d
  | _ => none
def inDct (f : Bool → Bool) : M × D → M × D → Option (M × D) := on2 kyO dcD fun k kvs => some (.f, .bl (f (valD kvs (dK k)).isSome))
theorem sqD_rep {K : PySem.W.Frag} {F : Addr → Prop} {H : Hp} {a : M × D} {v : V} {q : List Addr} {xs : List D} (h : sqD a = some xs) (r : RepO K F H a.1 a.2 v q) : ∃ p vs, v = .ref p ∧ (SqL K H p vs ∨ SqT K H p vs) ∧ RepL K F H xs vs := by
  unfold sqD at h
  cases e : lsD a with
  | some z =>
    rw [e] at h
    cases h
    obtain ⟨p, vs, e1, s1, r1⟩ := lsD_rep e r
    exact ⟨p, vs, e1, .inl s1, r1⟩
  | none =>
    rw [e] at h
    obtain ⟨p, vs, e1, s1, r1⟩ := tpD_rep h r
    exact ⟨p, vs, e1, .inr s1, r1⟩
theorem kyO_rep {K : PySem.W.Frag} {F : Addr → Prop} {H : Hp} {a : M × D} {v : V} {q : List Addr} {k : Key} (h : kyO a = some k) (r : RepO K F H a.1 a.2 v q) : v = kV k := by
  obtain ⟨m, d⟩ := a
  cases m with
  | f =>
    have e := keyOf_some (d := d) (k := k) h
    subst e
    have := rep_f r
    cases k <;> (unfold dK Rep at this; exact this)
  | _ => cases h
def rInX (K : PySem.W.Frag) (f : Bool → Bool) : R2 := fun x y H Q => ∃ F d ds p vs, y = .ref p ∧ (SqL K H p vs ∨ SqT K H p vs) ∧ RepL K F H ds vs ∧ Rep K F H d x ∧ eqable 59 d = true ∧ ds.all (eqable 59) = true ∧ Q (.bl (f (ds.any fun z => eqD z d))) H
open Classical in
noncomputable def eqU (h : Heap) (d : D) (u : Value) : Bool := if p : ∃ z, RdD h z u ∧ eqable 59 z = true then eqD p.choose d else false
theorem eqU_of {h : Heap} {d z : D} {u : Value} (r : RdD h z u) (e : eqable 59 z = true) : eqU h d u = eqD z d := by
  have p : ∃ z, RdD h z u ∧ eqable 59 z = true := ⟨z, r, e⟩
  unfold eqU
  rw [dif_pos p, RdD.uniq _ _ _ p.choose_spec.1 r]
theorem any_eqU {h : Heap} {d : D} : ∀ {ds : List D} {us : List Value}, RdDs h ds us → ds.all (eqable 59) = true → us.any (eqU h d) = ds.any fun z => eqD z d
  | [], us, r, _ => by unfold RdDs at r; subst r; rfl
  | z :: ds, us, r, e => by
    unfold RdDs at r
    obtain ⟨u, t, rfl, x, y⟩ := r
    rw [List.all_cons, Bool.and_eq_true] at e
    rw [List.any_cons, List.any_cons, eqU_of x e.1, any_eqU y e.2]
theorem mem_RdDs {h : Heap} : ∀ {ds : List D} {us : List Value}, RdDs h ds us → ∀ u ∈ us, ∃ z ∈ ds, RdD h z u
  | [], us, r => by unfold RdDs at r; subst r; intro u m; cases m
  | z :: ds, us, r => by
    unfold RdDs at r
    obtain ⟨u, t, rfl, x, y⟩ := r
    intro u' m
    rcases List.mem_cons.mp m with rfl | m
    · exact ⟨z, List.mem_cons_self, x⟩
    · obtain ⟨z', m', r'⟩ := mem_RdDs y u' m
      exact ⟨z', List.mem_cons_of_mem _ m', r'⟩
theorem op_inX (hu : X.A.units + 64 < cLine) : OpR X (compareOp .In) (rInX X.K id) := by
  intro pins s σ H x y v u Q I rx ry h
  obtain ⟨F, d, ds, p, vs, rfl, hq, rl, rd, e1, e2, q⟩ := h
  cases ry
  have r1 := Rep.rd I 59 d x v e1 rd rx
  rcases hq with hq | hq
  · obtain ⟨its, r, pl, hz⟩ := I.list hq
    have r2 := Rep.rds I 59 ds vs its e2 rl r
    refine SeqAt.in_listAt (eqU s.heap d) pl.isList (fun w hw => ?_) ⟨.bl _, H, I, rfl, ?_⟩
    · obtain ⟨z, mz, rz⟩ := mem_RdDs r2 w (by simpa using hw)
      have ez : eqable 59 z = true := List.all_eq_true.mp e2 z mz
      rw [eqU_of rz ez]
      exact eqAt_D 59 z d X.A.in1 s w v rz r1 ez e1 (by show X.A.units + 1 + 59 < cLine; omega)
    · rw [show its.toArray.any (eqU s.heap d) = its.any (eqU s.heap d) by simp, any_eqU r2 e2]
      exact q
  · obtain ⟨its, r, pl, hz⟩ := I.tuple hq
    have r2 := Rep.rds I 59 ds vs its e2 rl r
    refine SeqAt.in_tupleAt (eqU s.heap d) pl (fun w hw => ?_) ⟨.bl _, H, I, rfl, ?_⟩
    · obtain ⟨z, mz, rz⟩ := mem_RdDs r2 w (by simpa using hw)
      have ez : eqable 59 z = true := List.all_eq_true.mp e2 z mz
      rw [eqU_of rz ez]
      exact eqAt_D 59 z d X.A.in1 s w v rz r1 ez e1 (by show X.A.units + 1 + 59 < cLine; omega)
    · rw [show its.toArray.any (eqU s.heap d) = its.any (eqU s.heap d) by simp, any_eqU r2 e2]
      exact q
theorem op_notInX (hu : X.A.units + 64 < cLine) : OpR X (compareOp .NotIn) (rInX X.K not) := by
  intro pins s σ H x y v u Q I rx ry h
  obtain ⟨F, d, ds, p, vs, rfl, hq, rl, rd, e1, e2, q⟩ := h
  cases ry
  have r1 := Rep.rd I 59 d x v e1 rd rx
  rcases hq with hq | hq
  · obtain ⟨its, r, pl, hz⟩ := I.list hq
    have r2 := Rep.rds I 59 ds vs its e2 rl r
    refine SeqAt.notIn_listAt (eqU s.heap d) pl.isList (fun w hw => ?_) ⟨.bl _, H, I, rfl, ?_⟩
    · obtain ⟨z, mz, rz⟩ := mem_RdDs r2 w (by simpa using hw)
      have ez : eqable 59 z = true := List.all_eq_true.mp e2 z mz
      rw [eqU_of rz ez]
      exact eqAt_D 59 z d X.A.in1 s w v rz r1 ez e1 (by show X.A.units + 1 + 59 < cLine; omega)
    · rw [show its.toArray.any (eqU s.heap d) = its.any (eqU s.heap d) by simp, any_eqU r2 e2]
      exact q
  · obtain ⟨its, r, pl, hz⟩ := I.tuple hq
    have r2 := Rep.rds I 59 ds vs its e2 rl r
    refine SeqAt.notIn_tupleAt (eqU s.heap d) pl (fun w hw => ?_) ⟨.bl _, H, I, rfl, ?_⟩
    · obtain ⟨z, mz, rz⟩ := mem_RdDs r2 w (by simpa using hw)
      have ez : eqable 59 z = true := List.all_eq_true.mp e2 z mz
      rw [eqU_of rz ez]
      exact eqAt_D 59 z d X.A.in1 s w v rz r1 ez e1 (by show X.A.units + 1 + 59 < cLine; omega)
    · rw [show its.toArray.any (eqU s.heap d) = its.any (eqU s.heap d) by simp, any_eqU r2 e2]
      exact q
theorem RepL.any {K : PySem.W.Frag} {F : Addr → Prop} {H : Hp} {d : List D} {v : List V} (r : RepL K F H d v) : RepL K (fun _ => True) H d v := RepL.mono (fun _ _ => trivial) (fun _ _ _ h => h) d v r
theorem om_inX {K : PySem.W.Frag} {f : Bool → Bool} : OpM K (rInX K f) (inSeq f) := by
  intro F H x y a b q q' m d Q lv ra rb e k
  obtain ⟨i, j, hi, hj, e⟩ := on2_some e
  obtain ⟨h1, e⟩ := ifO_some e
  cases e
  rw [Bool.and_eq_true] at h1
  obtain ⟨p, vs, e1, s1, r1⟩ := sqD_rep hj rb
  exact ⟨fun _ => True, i, j, p, vs, e1, s1, r1.any, (rdO_rep hi ra).any, h1.1, h1.2, k.bl lv⟩
/-! dicts: in -/
theorem RepK.val {K : PySem.W.Frag} {F : Addr → Prop} {H : Hp} : ∀ {kvs : List (D × D)} {gs : List (Key × V)} (k : Key), RepK K F H kvs gs → (valD kvs (dK k) = none ∧ valV gs k = none) ∨ ∃ d v, valD kvs (dK k) = some d ∧ valV gs k = some v ∧ Rep K F H d v
  | [], gs, k, r => by
    unfold RepK at r
    subst r
    exact .inl ⟨rfl, rfl⟩
  | (q, d) :: kvs, gs, k, r => by
    unfold RepK at r
    obtain ⟨k', v, t, rfl, rfl, x, y⟩ := r
    by_cases h : k' = k
    · subst h
      refine .inr ⟨d, v, ?_, valV_pos rfl, x⟩
      simp [valD, List.find?_cons]
    · have h2 : ¬ dK k' = dK k := fun e => h (dK_inj e)
      rw [valV_neg (show ¬ ((k', v) : Key × V).1 = k from h)]
      have e : valD ((dK k', d) :: kvs) (dK k) = valD kvs (dK k) := by simp [valD, List.find?_cons, h2]
      rw [e]
      exact RepK.val k y
def rInDc (f : Bool → Bool) : R2 := fun y x H Q => ∃ a o, x = .ref a ∧ DGet H a y o ∧ Q (.bl (f o.isSome)) H
theorem op_inDc (hu : X.A.units + 64 < cLine) : OpR X (compareOp .In) (rInDc id) := by
  intro pins s σ H y x u v Q I ry rx h
  obtain ⟨a, o, rfl, g, q⟩ := h
  cases rx
  exact d_in (by omega) I g ry fun s' I' => ⟨.bl _, H, I', rfl, q⟩
theorem op_notInDc (hu : X.A.units + 64 < cLine) : OpR X (compareOp .NotIn) (rInDc not) := by
  intro pins s σ H y x u v Q I ry rx h
  obtain ⟨a, o, rfl, g, q⟩ := h
  cases rx
  exact d_notIn (by omega) I g ry fun s' I' => ⟨.bl _, H, I', rfl, q⟩
theorem om_inDc {K : PySem.W.Frag} {f : Bool → Bool} : OpM K (rInDc f) (inDct f) := by
  intro F H x y a b q q' m d Q lv ra rb e k
  obtain ⟨i, j, hi, hj, e⟩ := on2_some e
  cases e
  obtain ⟨p, gs, e1, s1, r1⟩ := dcD_rep hj rb
  refine ⟨p, valV gs i, e1, .inl ⟨gs, i, s1, kyO_rep hi ra, rfl⟩, ?_⟩
  have : (valV gs i).isSome = (valD j (dK i)).isSome := by
    rcases r1.val i with ⟨a, b⟩ | ⟨d, v, a, b, _⟩ <;> rw [a, b] <;> rfl
  rw [this]
  exact k.bl lv
theorem om_inS {K : PySem.W.Frag} {f : Bool → Bool} : OpM K (fun x y H Q => ∃ i j, x = .str i ∧ y = .str j ∧ Q (.bl (f (occB i j))) H) (inStr f) := by
  intro F H x y a b q q' m d Q lv ra rb e k
  obtain ⟨i, j, hi, hj, e⟩ := on2_some e
  cases e
  exact ⟨i, j, stD_rep hi ra, stD_rep hj rb, k.bl lv⟩
def inDD := orO (inStr id) (orO (inSeq id) (inDct id))
def notInDD := orO (inStr not) (orO (inSeq not) (inDct not))
theorem c_in (hu : X.A.units + 65 < cLine) : CmpF X .In inDD := ⟨_, op_in_str.or ((op_inX (by omega)).or (op_inDc (by omega))), om_inS.or (om_inX.or om_inDc)⟩
theorem c_notIn (hu : X.A.units + 65 < cLine) : CmpF X .NotIn notInDD := ⟨_, op_notin_str.or ((op_notInX (by omega)).or (op_notInDc (by omega))), om_inS.or (om_inX.or om_inDc)⟩
end
end FL

namespace FL
open PySem PySem.Spec PyProof.Rows L2
/-! ### subscripts -/
def ixSeq : M × D → M × D → Option (M × D) := on2 sqD inD fun xs i => (atI xs i).map fun d => (.f, d)
def ixStr : M × D → M × D → Option (M × D) := on2 stD inD fun z i => if szO z.length then (atI z.cps.toList i).map fun c => (.f, .str ⟨#[c]⟩) else none
def ixDct : M × D → M × D → Option (M × D) := on2 dcD kyO fun kvs k => (valD kvs (dK k)).map fun d => (.f, d)
def ixDD := orO ixSeq (orO ixStr ixDct)
section
variable {K : PySem.W.Frag} {F : Addr → Prop} {H : Hp}
theorem atI_rep {xs : List D} {vs : List V} {i : Int} {d : D} (r : RepL K F H xs vs) (h : atI xs i = some d) : ∃ v, atI vs i = some v ∧ Rep K F H d v := by
  unfold atI at h ⊢
  rw [← r.len]
  obtain ⟨j, hj, h⟩ := Option.bind_eq_some_iff.mp h
  obtain ⟨v, hv, rv⟩ := r.get h
  exact ⟨v, by rw [hj]; exact hv, rv⟩
def rIxSq (K : PySem.W.Frag) : R2 := fun x y H Q => rIxL K x y H Q ∨ rIxT K x y H Q
theorem om_ixSeq : OpM K (rIxSq K) ixSeq := by
  intro F H x y a b q q' m d Q lv ra rb e k
  obtain ⟨xs, i, hi, hj, e⟩ := on2_some e
  obtain ⟨d', ed, e⟩ := Option.map_eq_some_iff.mp e
  cases e
  obtain ⟨p, vs, e1, s1, r1⟩ := sqD_rep hi ra
  obtain ⟨v, ev, rv⟩ := atI_rep r1 ed
  have h := k.pure lv rv
  rcases s1 with s1 | s1
  · exact .inl ⟨p, vs, i, v, e1, inD_rep hj rb, s1, ev, h⟩
  · exact .inr ⟨p, vs, i, v, e1, inD_rep hj rb, s1, ev, h⟩
theorem om_ixStr : OpM K rIxS ixStr := by
  intro F H x y a b q q' m d Q lv ra rb e k
  obtain ⟨z, i, hi, hj, e⟩ := on2_some e
  split at e
  · rename_i hz
    obtain ⟨c, ed, e⟩ := Option.map_eq_some_iff.mp e
    cases e
    exact ⟨z, i, c, stD_rep hi ra, inD_rep hj rb, szO_ok hz, ed, k.str lv⟩
  · cases e
def rIxDc : R2 := fun x y H Q => ∃ a v, x = .ref a ∧ DGet H a y (some v) ∧ Q v H
theorem om_ixDct : OpM K rIxDc ixDct := by
  intro F H x y a b q q' m d Q lv ra rb e k
  obtain ⟨kvs, i, hi, hj, e⟩ := on2_some e
  obtain ⟨d', ed, e⟩ := Option.map_eq_some_iff.mp e
  cases e
  obtain ⟨p, gs, e1, s1, r1⟩ := dcD_rep hi ra
  rcases r1.val i with ⟨h, _⟩ | ⟨d2, v, h, hv, rv⟩
  · rw [h] at ed; cases ed
  · rw [h] at ed
    cases ed
    exact ⟨p, v, e1, .inl ⟨gs, i, s1, kyO_rep hj rb, hv.symm⟩, k.pure lv rv⟩
end
section
variable {X : Cx} {W : WX} {a b : Expr} {Ta Tb : List Sl → EO} {pos : Pos} {k : Nat}
theorem ix_dc (hu : X.A.units + 64 < cLine) : IxR X rIxDc := by
  intro value slice pins s σ H x y v u Q I rx ry h hs
  obtain ⟨a, z, rfl, g, q⟩ := h
  cases rx
  exact tail_any (dict_typeIs I g) PySem.F.slot_dict_getitem.lookup (d_getItem (by omega) I g ry fun w' s' I' rw' => ⟨z, H, I', rw', q⟩) hs
theorem fe_ix (hu : X.A.units + 65 < cLine) (ha : FE X W a Ta) (hb : FE X W b Tb) (hs : PlainIx b := by intro _ _; rfl) : FE X W (.Subscript a b pos) (use2 ixDD Ta Tb) :=
  fe_use2 (om_ixSeq.or (om_ixStr.or om_ixDct)) (pe_ix ((ix_list.or ix_tup).or (ix_str.or (ix_dc (by omega)))) ha hb hs)
end
/-! ### slices -/
inductive PRes where
  | ok (p : Bool) (i : Option Int) (ρ : List Sl)
  | ex (C : Addr) (fs : List (Str × D)) (ρ : List Sl)
  | no
def partO (T : List Sl → EO) : List Sl → PRes := fun ρ => match T ρ with
  | .ok p k m d ρ1 => (match (curR true ρ1 k m d).bind inD with
    | some i => .ok p (some i) ρ1
    | none => .no)
  | .ex C fs ρ1 => .ex C fs ρ1
  | .no => .no
def partN : List Sl → PRes := fun ρ => .ok true none ρ
def PRes.bindE : PRes → (Bool → Option Int → List Sl → EO) → EO
  | .ok p i ρ, f => f p i ρ
  | .ex C fs ρ, _ => .ex C fs ρ
  | .no, _ => .no
def AftP (K : PySem.W.Frag) (W : WX) (G : Gh) (st : List TI) (σ : L2.St) (Q : Option Int → Hp → Prop) : PRes → Prop
  | .ok p i ρ => ∀ H, EI K G (dims p st) ρ σ H → Q i H
  | .ex C fs ρ => AftX K W G st σ C fs ρ
  | .no => False
def tP (K : PySem.W.Frag) (W : WX) (T : List Sl → PRes) : TO := fun σ H Q => ∃ G st ρ, EI K G st ρ σ H ∧ AftP K W G st σ Q (T ρ)
def FP (X : Cx) (W : WX) (e : Option Expr) (T : List Sl → PRes) : Prop := PO X e (tP X.K W T)
theorem PO.imp {X : Cx} {e : Option Expr} {t t' : TO} (h : PO X e t) (i : ∀ σ H Q, t' σ H Q → t σ H Q) : PO X e t' := ⟨fun pins s σ H Q I q => h.run pins s σ H Q I (i σ H Q q)⟩
section
variable {K : PySem.W.Frag} {W : WX} {G : Gh} {st st1 : List TI} {ρ : List Sl} {σ : L2.St} {H : Hp} {F : Addr → Prop}
theorem AftP.bindE {x : PRes} {f : Bool → Option Int → List Sl → EO} {Q : VK} {R : Option Int → Hp → Prop} (h : Aft K W G st σ Q (x.bindE f)) (o : Over K st1 st)
    (hk : ∀ p i ρ1, x = .ok p i ρ1 → Aft K W G st σ Q (f p i ρ1) → ∀ H1, EI K G (FL.dims p st1) ρ1 σ H1 → R i H1) : AftP K W G st1 σ R x := by
  cases x with
  | ok p i ρ1 => exact hk p i ρ1 rfl h
  | ex C fs ρ1 => exact fun a gs H I => h a gs H (o _ _ _ _ _ I)
  | no => exact h
end
section
variable {X : Cx} {W : WX} {a b e : Expr} {Ta Tb T : List Sl → EO} {pos : Pos} {k : Nat}
theorem fp_none : FP X W none partN := PO.imp po_none fun σ H Q ⟨G, st, ρ, I, h⟩ => h H I
theorem fp_some (he : FE X W e T) : FP X W (some e) (partO T) := PO.imp (po_some he) fun σ H Q ⟨G, st, ρ, I, h⟩ => by
  refine ⟨G, st, ρ, I, ?_⟩
  unfold partO at h
  cases et : T ρ with
  | no => rw [et] at h; exact h
  | ex C fs ρ1 => rw [et] at h; exact h
  | ok p k m d ρ1 =>
    rw [et] at h
    cases ec : (curR true ρ1 k m d).bind inD with
    | none => simp only [ec] at h; exact h.elim
    | some i =>
      simp only [ec] at h
      intro v H1 I1
      obtain ⟨r, er, ei⟩ := Option.bind_eq_some_iff.mp ec
      obtain ⟨F, fp, I2⟩ := I1
      obtain ⟨q, r1⟩ := rep_top I2 er
      exact ⟨i, inD_rep ei r1, h H1 ⟨F, _, I2.pop⟩⟩
end
def cutD (xs : List D) (lo hi : Option Int) : List D := (xs.drop (HT.sIx xs.length 0 lo)).take (HT.sIx xs.length xs.length hi - HT.sIx xs.length 0 lo)
def sliceD (a : M × D) (lo hi : Option Int) : Option (M × D) := match lsD a with
  | some xs => some (.o .f, .lst (cutD xs lo hi))
  | none => match tpD a with
    | some xs => some (.f, .tup (cutD xs lo hi))
    | none => match stD a with
      | some z => if szO z.length then some (.f, .str (cutS z lo hi)) else none
      | none => none
def sliceE (T : List Sl → EO) (Tl Th : List Sl → PRes) : List Sl → EO := fun ρ => (T ρ).bind fun p1 k1 m1 d1 ρ1 => (Tl ρ1).bindE fun p2 lo ρ2 => (Th ρ2).bindE fun p3 hi ρ3 =>
  .val (p1 && (p2 && p3)) ρ3 ((curR (p2 && p3) ρ3 k1 m1 d1).bind fun a => sliceD a lo hi)
def rSlAll (K : PySem.W.Frag) : V → Option Int → Option Int → Hp → VK → Prop := fun x lo hi H Q => rSlL K x lo hi H Q ∨ (rSlA K x lo hi H Q ∨ rSlS x lo hi H Q)
theorem RepL.cut {K : PySem.W.Frag} {F : Addr → Prop} {H : Hp} {xs : List D} {vs : List V} (r : RepL K F H xs vs) (lo hi : Option Int) : RepL K F H (cutD xs lo hi) (cutV vs lo hi) := by
  unfold cutD cutV
  rw [← r.len]
  exact (r.drop _).take _
theorem sliceD_ok {K : PySem.W.Frag} {F : Addr → Prop} {H : Hp} {a : M × D} {x : V} {q : List Addr} {lo hi : Option Int} {m : M} {d : D} {Q : VK} (lv : ∀ a, F a → ∃ o, H a = some o) (r : RepO K F H a.1 a.2 x q) (e : sliceD a lo hi = some (m, d)) (k : Hands K F H m d Q) : rSlAll K x lo hi H Q := by
  unfold sliceD at e
  cases el : lsD a with
  | some xs =>
    simp only [el] at e
    cases e
    obtain ⟨p, vs, e1, s1, r1⟩ := lsD_rep el r
    exact .inl ⟨p, vs, e1, s1, fun z hz => hands_lst lv hz (r1.cut lo hi) k⟩
  | none =>
    simp only [el] at e
    cases et : tpD a with
    | some xs =>
      simp only [et] at e
      cases e
      obtain ⟨p, vs, e1, s1, r1⟩ := tpD_rep et r
      refine .inr (.inl ⟨p, vs, e1, s1, fun hw => ?_, fun _ z hz => hands_tup lv hz (r1.cut lo hi) k⟩)
      have hc : cutD xs lo hi = xs := by
        unfold cutD
        rw [← r1.len] at hw
        rw [hw.1, hw.2, List.drop_zero, Nat.sub_zero, List.take_length]
      rw [hc] at k
      obtain ⟨m1, d1⟩ := a
      cases m1 <;> cases d1 <;> simp [tpD] at et
      subst et
      have rr := rep_f r
      rw [e1] at rr
      exact k.pure lv rr
    | none =>
      simp only [et] at e
      cases es : stD a with
      | none => simp only [es] at e; cases e
      | some z =>
        simp only [es] at e
        split at e
        · rename_i hz
          cases e
          exact .inr (.inr ⟨z, stD_rep es r, szO_ok hz, k.str lv⟩)
        · cases e
section
variable {X : Cx} {W : WX} {e : Expr} {lo hi : Option Expr} {T : List Sl → EO} {Tl Th : List Sl → PRes} {pos p2 : Pos}
theorem fe_slice (he : FE X W e T) (hl : FP X W lo Tl) (hh : FP X W hi Th) : FE X W (.Subscript e (.Slice lo hi none p2) pos) (sliceE T Tl Th) := by
  refine PE.imp (pe_slice (r := rSlAll X.K) (sl_list.or (sl_tupA.or sl_str)) he hl hh) fun σ H Q ⟨G, st, ρ, I, h⟩ => ?_
  refine ⟨G, st, ρ, I, Aft.bind h (Over.refl st) fun p1 k1 m1 d1 ρ1 ex1 h v H1 I1 => ?_⟩
  refine ⟨G, _, ρ1, I1, AftP.bindE h ((Over.refl st).cons _ p1) fun p2 l ρ2 ex2 h H2 I2 => ?_⟩
  refine ⟨G, _, ρ2, I2, AftP.bindE h (((Over.refl st).cons _ p1).dims p2) fun p3 u ρ3 ex3 h H3 I3 => ?_⟩
  obtain ⟨m', d', e1, h⟩ := val_aft h
  obtain ⟨a, ea, e1⟩ := Option.bind_eq_some_iff.mp e1
  rw [dims_dims, dims_cons, dims_dims] at I3
  obtain ⟨F, fp, I4⟩ := I3
  obtain ⟨q, r1⟩ := I4.rep (j := 0) rfl (mkI_cur ea)
  have hv : (if (p2 && p3) then mkI k1 m1 d1 v else (mkI k1 m1 d1 v).dim).val = v := mkI_val ea
  rw [hv] at r1
  exact sliceD_ok I4.lv r1 e1 (I4.pop.hands h)
end
/-! ### calls of built-ins -/
structure CallF (X : Cx) (f : Value) (g : List (M × D) → Option (M × D)) : Prop where
  ex : ∃ r, CallR X f r ∧ OpA X.K r g
theorem CallF.or {X : Cx} {f : Value} {g g' : List (M × D) → Option (M × D)} (h : CallF X f g) (h' : CallF X f g') : CallF X f (orA g g') := by
  obtain ⟨r, a, b⟩ := h.ex
  obtain ⟨r', a', b'⟩ := h'.ex
  exact ⟨_, a.or a', b.or b'⟩
section
variable {X : Cx} {W : WX} {x : Str} {p pos : Pos} {e : Expr} {es : List Expr} {Ts : List Sl → AO} {id T : String} {g : List (M × D) → Option (M × D)}
theorem fe_callB (hc : CallF X (.builtin id) g) (hg : Gl X x) (hm : X.mg x = none) (hv : bootBuiltins x = some (.builtin id)) (ha : FA X W (e :: es) Ts) (hn : x ≠ "__name__" := by decide) (hdb : (x == ("__debug__" : Str)) = false := by decide)
    (he : starEach (e :: es) X.env = (false, eval e X.env) :: starEach es X.env := by rfl) (hpl : (backTo pos (starEach es X.env)).any (·.1) = false := by rfl) : FE X W (.Call (.Name x p) (e :: es) [] pos) (useA g Ts) := by
  obtain ⟨r, a, b⟩ := hc.ex
  exact fe_useA b (pe_callB a hg hm hv ha hn hdb he hpl)
theorem fe_callTy (hc : CallF X (.type T) g) (hg : Gl X x) (hm : X.mg x = none) (hv : bootBuiltins x = some (.type T)) (ha : FA X W (e :: es) Ts) (hn : x ≠ "__name__" := by decide) (hdb : (x == ("__debug__" : Str)) = false := by decide)
    (he : starEach (e :: es) X.env = (false, eval e X.env) :: starEach es X.env := by rfl) (hpl : (backTo pos (starEach es X.env)).any (·.1) = false := by rfl) : FE X W (.Call (.Name x p) (e :: es) [] pos) (useA g Ts) := by
  obtain ⟨r, a, b⟩ := hc.ex
  exact fe_useA b (pe_callTy a hg hm hv ha hn hdb he hpl)
end
def on1 {α : Type} (f : M × D → Option α) (k : α → Option (M × D)) : List (M × D) → Option (M × D)
  | [a] => (f a).bind k
  | _ => none
theorem on1_some {α : Type} {f : M × D → Option α} {k : α → Option (M × D)} {as : List (M × D)} {r : M × D} (h : on1 f k as = some r) : ∃ a x, as = [a] ∧ f a = some x ∧ k x = some r := by
  match as with
  | [a] =>
    obtain ⟨x, hx, h⟩ := Option.bind_eq_some_iff.mp h
    exact ⟨a, x, rfl, hx, h⟩
  | [] => cases h
  | _ :: _ :: _ => cases h
theorem rep1 {K : PySem.W.Frag} {F : Addr → Prop} {H : Hp} {a : M × D} {vs : List V} (r : RepAs K F H [a] vs) : ∃ v q, vs = [v] ∧ RepO K F H a.1 a.2 v q := by
  obtain ⟨v, t, e, ⟨q, x⟩, y⟩ := r
  have y : t = [] := y
  subst y
  exact ⟨v, q, e, x⟩
theorem rep2 {K : PySem.W.Frag} {F : Addr → Prop} {H : Hp} {a b : M × D} {vs : List V} (r : RepAs K F H [a, b] vs) : ∃ v u q q', vs = [v, u] ∧ RepO K F H a.1 a.2 v q ∧ RepO K F H b.1 b.2 u q' := by
  obtain ⟨v, t, e, ⟨q, x⟩, y⟩ := r
  obtain ⟨u, q', e2, z⟩ := rep1 y
  subst e2
  exact ⟨v, u, q, q', e, x, z⟩
section
variable {X : Cx}
def lenSq := on1 sqD fun xs => some (.f, .int (xs.length : Nat))
def lenStr := on1 stD fun z => ifO (szO z.length) (.int (z.length : Nat))
def lenDct := on1 dcD fun xs => some (.f, .int (xs.length : Nat))
def lenD := orA lenSq (orA lenStr lenDct)
theorem call_lenDc : CallR X (.builtin "len") (fun xs H Q => ∃ p kvs, xs = [.ref p] ∧ Rd H p (.dK kvs) ∧ Q (.int kvs.length) H) := by
  intro pins s σ H xs us Q I r h
  obtain ⟨p, kvs, rfl, hk, q⟩ := h
  obtain ⟨u, rfl, rx⟩ := vals1 r
  cases rx
  exact d_len I hk fun t s' I' => ⟨.int _, H, I', ⟨t, rfl⟩, q⟩
theorem b_len : CallF X (.builtin "len") lenD := by
  refine CallF.or ⟨_, call_len_seq, ?_⟩ (CallF.or ⟨_, call_len_str, ?_⟩ ⟨_, call_lenDc, ?_⟩)
  · intro F H vs as m d Q lv ra e k
    obtain ⟨a, xs, rfl, ha, e⟩ := on1_some e
    cases e
    obtain ⟨v, q, rfl, r⟩ := rep1 ra
    obtain ⟨p, ws, rfl, s1, r1⟩ := sqD_rep ha r
    exact ⟨p, ws, rfl, s1, by rw [← r1.len]; exact k.int lv⟩
  · intro F H vs as m d Q lv ra e k
    obtain ⟨a, xs, rfl, ha, e⟩ := on1_some e
    obtain ⟨h1, e⟩ := ifO_some e
    cases e
    obtain ⟨v, q, rfl, r⟩ := rep1 ra
    exact ⟨xs, by rw [stD_rep ha r], szO_ok h1, k.int lv⟩
  · intro F H vs as m d Q lv ra e k
    obtain ⟨a, xs, rfl, ha, e⟩ := on1_some e
    cases e
    obtain ⟨v, q, rfl, r⟩ := rep1 ra
    obtain ⟨p, ws, rfl, s1, r1⟩ := dcD_rep ha r
    exact ⟨p, ws, rfl, s1, by rw [← r1.len]; exact k.int lv⟩
def blD : M × D → Option Bool
  | (.f, .bl b) => some b
  | _ => none
theorem blD_rep {K : PySem.W.Frag} {F : Addr → Prop} {H : Hp} {a : M × D} {v : V} {q : List Addr} {i : Bool} (h : blD a = some i) (r : RepO K F H a.1 a.2 v q) : v = .bl i := by
  obtain ⟨m, d⟩ := a
  cases m <;> cases d <;> simp [blD] at h
  subst h
  have := rep_f r
  unfold Rep at this
  exact this
def intD := orA (on1 inD fun i => some (.f, .int i)) (on1 blD fun b => some (.f, .int (if b then 1 else 0)))
theorem b_int : CallF X (.type "int") intD := by
  refine ⟨_, call_int1, ?_⟩
  refine OpA.or (fun F H vs as m d Q lv ra e k => ?_) fun F H vs as m d Q lv ra e k => ?_
  · obtain ⟨a, xs, rfl, ha, e⟩ := on1_some e
    cases e
    obtain ⟨v, q, rfl, r⟩ := rep1 ra
    exact ⟨xs, by rw [inD_rep ha r], k.int lv⟩
  · obtain ⟨a, xs, rfl, ha, e⟩ := on1_some e
    cases e
    obtain ⟨v, q, rfl, r⟩ := rep1 ra
    exact ⟨xs, by rw [blD_rep ha r], k.int lv⟩
def strD := on1 inD fun i => ifO (decide (i.natAbs.log2 < 1920)) (.str (toString i))
theorem b_str : CallF X (.type "str") strD := by
  refine ⟨_, call_str_int, fun F H vs as m d Q lv ra e k => ?_⟩
  obtain ⟨a, xs, rfl, ha, e⟩ := on1_some e
  obtain ⟨h1, e⟩ := ifO_some e
  cases e
  obtain ⟨v, q, rfl, r⟩ := rep1 ra
  exact ⟨xs, by rw [inD_rep ha r], of_decide_eq_true h1, k.str lv⟩
/-! tuple(..), list(..) -/
def tupC := orA (on1 lsD fun xs => some (.f, .tup xs)) (on1 tpD fun xs => some (.f, .tup xs))
theorem b_tuple : CallF X (.type "tuple") tupC := by
  refine CallF.or ⟨_, call_tuple_of, fun F H vs as m d Q lv ra e k => ?_⟩ ⟨_, call_tuple_of, fun F H vs as m d Q lv ra e k => ?_⟩
  · obtain ⟨a, xs, rfl, ha, e⟩ := on1_some e
    cases e
    obtain ⟨v, q, rfl, r⟩ := rep1 ra
    obtain ⟨p, ws, rfl, s1, r1⟩ := lsD_rep ha r
    exact ⟨p, ws, rfl, .inl ⟨s1, fun z hz => hands_tup lv hz r1 k⟩⟩
  · obtain ⟨a, xs, rfl, ha, e⟩ := on1_some e
    cases e
    obtain ⟨v, q, rfl, r⟩ := rep1 ra
    obtain ⟨p, ws, rfl, s1, r1⟩ := tpD_rep ha r
    refine ⟨p, ws, rfl, .inr ⟨s1, ?_⟩⟩
    obtain ⟨m1, d1⟩ := a
    cases m1 <;> cases d1 <;> simp [tpD] at ha
    subst ha
    exact k.pure lv (rep_f r)
theorem call_listStr (hc : X.calm = true) : CallR X (.type "list") (fun xs H Q => ∃ z, xs = [.str z] ∧ z.length ≤ sizeLine ∧ ∀ l, H l = none → Q (.ref l) (upd H l (.lst (z.cps.toList.map fun c => V.str ⟨#[c]⟩)))) := by
  intro pins s σ H xs us Q I r h
  obtain ⟨z, rfl, hz, q⟩ := h
  obtain ⟨u, rfl, t, rfl⟩ := vals1 r
  refine PySem.call_list_str (I.ok.hd hc) z t (fun h' tk acc c' hk e hi => ?_) hz
  refine ⟨.ref _, upd H s.heap.objs.size (.lst (z.cps.toList.map fun c => V.str ⟨#[c]⟩)), I.laid (t' := tk) hk (Nat.le_refl _) ⟨?_, acc.toList, c', ?_, by rw [Array.toArray_toList]; exact e⟩, rfl, q _ I.fresh⟩
  · simp only [List.length_map, Array.length_toList]
    exact hz
  · refine vals_of_at (by simp [hi.1]) fun j x u h1 h2 => ?_
    rw [List.getElem?_map] at h1
    obtain ⟨c, ec, rfl⟩ := Option.map_eq_some_iff.mp h1
    obtain ⟨c', t', e1, e2⟩ := hi.2 j u (by rw [← Array.getElem?_toList]; exact h2)
    rw [← Array.getElem?_toList, ec] at e1
    cases e1
    exact ⟨t', e2⟩
theorem RepL.signs {K : PySem.W.Frag} {F : Addr → Prop} {H : Hp} : ∀ cs : List Nat, RepL K F H (cs.map signD) (cs.map fun c => V.str ⟨#[c]⟩)
  | [] => by unfold RepL; rfl
  | c :: cs => by
    show RepL K F H (signD c :: cs.map signD) (V.str ⟨#[c]⟩ :: cs.map fun c => V.str ⟨#[c]⟩)
    unfold RepL
    exact ⟨_, _, rfl, by unfold signD Rep; rfl, RepL.signs cs⟩
theorem RepK.keysL {K : PySem.W.Frag} {F : Addr → Prop} {H : Hp} : ∀ {kvs : List (D × D)} {gs : List (Key × V)}, RepK K F H kvs gs → RepL K F H (kvs.map (·.1)) (gs.map fun p => kV p.1)
  | [], gs, r => by
    unfold RepK at r
    subst r
    unfold RepL
    rfl
  | (k, d) :: kvs, gs, r => by
    unfold RepK at r
    obtain ⟨k', v, t, rfl, rfl, x, y⟩ := r
    show RepL K F H (dK k' :: kvs.map (·.1)) (kV k' :: t.map fun p => kV p.1)
    unfold RepL
    exact ⟨_, _, rfl, by cases k' <;> (unfold dK Rep; rfl), RepK.keysL y⟩
def lstC := orA (on1 sqD fun xs => some (.o .f, .lst xs)) (orA (on1 stD fun z => newL (szO z.length) (z.cps.toList.map signD)) (on1 dcD fun kvs => some (.o .f, .lst (kvs.map (·.1)))))
theorem b_list (hc : X.calm = true) : CallF X (.type "list") lstC := by
  refine CallF.or ⟨_, call_list_of, fun F H vs as m d Q lv ra e k => ?_⟩ (CallF.or ⟨_, call_listStr hc, fun F H vs as m d Q lv ra e k => ?_⟩ ⟨_, call_listD hc, fun F H vs as m d Q lv ra e k => ?_⟩)
  · obtain ⟨a, xs, rfl, ha, e⟩ := on1_some e
    cases e
    obtain ⟨v, q, rfl, r⟩ := rep1 ra
    obtain ⟨p, ws, rfl, s1, r1⟩ := sqD_rep ha r
    exact ⟨p, ws, rfl, s1, fun z hz => hands_lst lv hz r1 k⟩
  · obtain ⟨a, xs, rfl, ha, e⟩ := on1_some e
    obtain ⟨h1, e⟩ := newL_some e
    cases e
    obtain ⟨v, q, rfl, r⟩ := rep1 ra
    exact ⟨xs, by rw [stD_rep ha r], szO_ok h1, fun z hz => hands_lst lv hz (RepL.signs _) k⟩
  · obtain ⟨a, xs, rfl, ha, e⟩ := on1_some e
    cases e
    obtain ⟨v, q, rfl, r⟩ := rep1 ra
    obtain ⟨p, ws, rfl, s1, r1⟩ := dcD_rep ha r
    exact ⟨p, ws, rfl, s1, fun z hz => hands_lst lv hz r1.keysL k⟩
/-! all, any -/
def blsD : List D → Option (List Bool)
  | [] => some []
  | .bl b :: r => (blsD r).map (b :: ·)
  | _ => none
theorem blsD_rep {K : PySem.W.Frag} {F : Addr → Prop} {H : Hp} : ∀ {ds : List D} {bs : List Bool} {vs : List V}, blsD ds = some bs → RepL K F H ds vs → vs = bs.map V.bl
  | [], bs, vs, h, r => by
    cases h
    unfold RepL at r
    exact r
  | d :: ds, bs, vs, h, r => by
    cases d <;> simp only [blsD] at h <;> try cases h
    obtain ⟨bs', e, rfl⟩ := Option.map_eq_some_iff.mp h
    unfold RepL at r
    obtain ⟨v, t, rfl, x, y⟩ := r
    unfold Rep at x
    subst x
    rw [blsD_rep e y]
    rfl
def allD := on1 lsD fun xs => (blsD xs).map fun bs => (.f, .bl (bs.all id))
def anyD := on1 lsD fun xs => (blsD xs).map fun bs => (.f, .bl (bs.any id))
theorem b_all (hc : X.calm = true) : CallF X (.builtin "all") allD := by
  refine ⟨_, cr_all hc, fun F H vs as m d Q lv ra e k => ?_⟩
  obtain ⟨a, xs, rfl, ha, e⟩ := on1_some e
  obtain ⟨bs, eb, e⟩ := Option.map_eq_some_iff.mp e
  cases e
  obtain ⟨v, q, rfl, r⟩ := rep1 ra
  obtain ⟨p, ws, rfl, s1, r1⟩ := lsD_rep ha r
  rw [blsD_rep eb r1] at s1
  exact ⟨p, bs, rfl, s1, k.bl lv⟩
theorem b_any (hc : X.calm = true) : CallF X (.builtin "any") anyD := by
  refine ⟨_, cr_any hc, fun F H vs as m d Q lv ra e k => ?_⟩
  obtain ⟨a, xs, rfl, ha, e⟩ := on1_some e
  obtain ⟨bs, eb, e⟩ := Option.map_eq_some_iff.mp e
  cases e
  obtain ⟨v, q, rfl, r⟩ := rep1 ra
  obtain ⟨p, ws, rfl, s1, r1⟩ := lsD_rep ha r
  rw [blsD_rep eb r1] at s1
  exact ⟨p, bs, rfl, s1, k.bl lv⟩
end
end FL

namespace FL
open PySem PySem.Spec PyProof.Rows L2
/-! ### enumerate over a tuple, a text -/
structure Src (P : Program) (w : World) (K : PySem.W.Frag) (it : Addr) (fp : List Addr) (tn : Nat → Heap → Prop) (Go U : Nat → Hp → V → Prop) (Z : Nat → Hp → Prop) : Prop where
  live : ∀ i h, tn i h → ∃ o, h.get? it = some o ∧ ∀ v, o.data ≠ .cell v
  frame : ∀ i h h', tn i h → (∀ o, h.get? it = some o → h'.get? it = some o) → tn i h'
  item : ∀ (X : Cx), X.prog = P → X.w = w → X.K = K → X.calm = true → ∀ (i : Nat) (pins : List (Addr × Obj)) (s : Shared) (σ : L2.St) (H : Hp) (v : V), Inv X pins σ H s → tn i s.heap → Go i H v →
    U i H v ∧ ∃ (n : Nat) (P' : Nat → Value → Prop) (St : Nat → Heap → Prop), Draws X.prog X.w X.A.in1 it fp n P' St ∧ St i s.heap ∧ i < n ∧ (∀ u, P' i u → RelV v u) ∧ ∀ h', St (i + 1) h' → tn (i + 1) h'
  done : ∀ (X : Cx), X.prog = P → X.w = w → X.K = K → X.calm = true → ∀ (i : Nat) (pins : List (Addr × Obj)) (s : Shared) (σ : L2.St) (H : Hp), Inv X pins σ H s → tn i s.heap → Z i H →
    ∃ (P' : Nat → Value → Prop) (St : Nat → Heap → Prop), Draws X.prog X.w X.A.in1 it fp i P' St ∧ St i s.heap
def Itn (Go U : Nat → Hp → V → Prop) (Z : Nat → Hp → Prop) : It :=
  ⟨fun i H => ∃ v, Go i H v, fun i H x H' => ∃ T v, x = .ref T ∧ H T = none ∧ H' = upd H T (.tup [.int (i : Nat), v]) ∧ U i H v, Z⟩
theorem turn_enumN {P : Program} {w : World} {K : PySem.W.Frag} {elts : List Expr} {kk : Nat} {tpos : Pos} {it e : Addr} {fp : List Addr} {tn : Nat → Heap → Prop} {Go U : Nat → Hp → V → Prop} {Z : Nat → Hp → Prop} (S : Src P w K it fp tn Go U Z) (hne : e ≠ it) (hef : e ∉ fp) :
    Turn P w K (.Tuple elts kk tpos) (Itn Go U Z) [e, it] e (fun i h => (∃ old, IsEnum h e it ((i : Nat) : Int) old) ∧ tn i h) where
  mem := by simp
  obj := fun i h st b hb => by
    obtain ⟨⟨old, he⟩, t⟩ := st
    have e' : b = e ∨ b = it := by simpa using hb
    rcases e' with z | z
    · rw [z]; exact ⟨_, he, fun v q => nomatch q⟩
    · rw [z]; exact S.live i h t
  keep := fun i h h' st k => let ⟨⟨old, he⟩, t⟩ := st; ⟨⟨old, k e (by simp) _ he⟩, S.frame i h h' t fun o q => k it (by simp) o q⟩
  item := by
    intro X hP hw hK hc i pins s σ H E I hf st hg
    obtain ⟨⟨old, he⟩, t⟩ := st
    obtain ⟨v, hgo⟩ := hg
    obtain ⟨hU, n, P', St, D, hst, hlt, hP', hnext⟩ := S.item X hP hw hK hc i pins s σ H v I t hgo
    subst hP hw hK
    have hel : e < s.heap.objs.size := Heap.lt_size he
    have hil : it < s.heap.objs.size := by obtain ⟨_, q, _⟩ := S.live i _ t; exact Heap.lt_size q
    refine wpAny_pyNext_enum_itemC D he hst hlt hne hef fun u h' tk hu ho hst' hT hsz hk => ?_
    refine ⟨_, rfl, wpAny_letOwnedTupleGo_enum (s := { s with heap := h', toks := tk + 1 }) ho fun h'' he' sb => ?_⟩
    have hT2 : h''.get? s.heap.objs.size = some { cls := .type "tuple", data := .seq #[.int i tk, u] } := (sb.2 _ (Nat.ne_of_gt hel)).trans hT
    have new : ObjOk X.prog X.w (upd H s.heap.objs.size (.tup [.int (i : Nat), v])) h'' s.heap.objs.size (.tup [.int (i : Nat), v]) :=
      ⟨by show 2 ≤ sizeLine; decide, [.int i tk, u], .cons ⟨_, rfl⟩ (.cons (hP' u hu) .nil), ⟨_, hT2, rfl, _, rfl⟩⟩
    have I1 : Inv X pins σ (upd H s.heap.objs.size (.tup [.int (i : Nat), v])) { s with heap := h'', toks := tk + 1 } :=
      I.turnedNew (ch := [e, it]) (fun b ob hb q => (sb.2 b (fun z => hb (by simp [z]))).trans (hk b ob (fun z => hb (by simp [z])) (fun z => hb (by simp [z])) q)) hf (Nat.le_refl _) new
    refine ⟨.ref s.heap.objs.size, _, I1, rfl, ⟨_, v, rfl, I.hok.fresh (Nat.le_refl _), rfl, hU⟩, ⟨⟨u, ?_⟩, S.frame _ h' _ (hnext h' hst') fun o q => (sb.2 it (Ne.symm hne)).trans q⟩, fun b hb => ?_⟩
    · have e1 : ((i + 1 : Nat) : Int) = (i : Int) + 1 := by omega
      rw [e1]; exact he'
    · have hb' : b < s.heap.objs.size := by
        have e' : b = e ∨ b = it := by simpa using hb
        rcases e' with z | z
        · rw [z]; exact hel
        · rw [z]; exact hil
      rw [upd_ne (Nat.ne_of_lt hb')]
      exact (hf b hb).1
  done := by
    intro X hP hw hK hc i pins s σ H E I hf st hg
    obtain ⟨⟨old, he⟩, t⟩ := st
    obtain ⟨P', St, D, hst⟩ := S.done X hP hw hK hc i pins s σ H I t hg
    subst hP hw hK
    obtain ⟨f0, f1, f2, f3, f4, f5⟩ := hf it (by simp)
    exact wpAny_pyNext_enum_endD D he hst fun h' eb => ⟨rfl, I.turned (t' := s.toks) (fun b o hb q => eb b o hb q) f0 f1 f3 f4 f5⟩
  self := fun A i s Q E st h => let ⟨⟨_, he⟩, _⟩ := st; wpAny_pyIter_enum he h
/-- a tuple's items -/
def GoT (K : PySem.W.Frag) (a : Addr) : Nat → Hp → V → Prop := fun i H v => ∃ vs, SqT K H a vs ∧ vs[i]? = some v
def UT (K : PySem.W.Frag) (a : Addr) : Nat → Hp → V → Prop := fun i H v => ∀ vs, SqT K H a vs → vs[i]? = some v
def ZT (K : PySem.W.Frag) (a : Addr) : Nat → Hp → Prop := fun i H => ∃ vs, SqT K H a vs ∧ vs.length = i
theorem src_tup {P : Program} {w : World} {K : PySem.W.Frag} {it a : Addr} (hne : a ≠ it) : Src P w K it [it, a] (fun i h => h.IsTupleIter it a i) (GoT K a) (UT K a) (ZT K a) where
  live := fun i h t => by
    obtain ⟨o, ho, hc, hd⟩ := t
    exact ⟨o, ho, fun v q => by rw [hd] at q; cases q⟩
  frame := fun i h h' t k => t.at k
  item := by
    intro X hP hw hK hc i pins s σ H v I t hg
    subst hP hw hK
    obtain ⟨vs, hq, hv⟩ := hg
    obtain ⟨its, rv, p, hz⟩ := I.tuple hq
    obtain ⟨u, hu, ru⟩ := rv.get hv
    refine ⟨fun ys hy => by rw [I.tuple_inj hy hq]; exact hv, its.toArray.size, fun i v => its.toArray[i]? = some v, fun i h => h.IsTupleIter it a i ∧ h.IsTuple a its.toArray, Draws.tuple (A := X.A.in1) (show X.A.in1.handled = none from I.ok.hd hc) it a hne its.toArray, ⟨t, p⟩, ?_, fun u' e => ?_, fun h' x => x.1⟩
    · have := (List.getElem?_eq_some_iff.mp hu).1
      simpa using this
    · have e : its[i]? = some u' := by simpa using e
      rw [hu] at e
      cases e
      exact ru
  done := by
    intro X hP hw hK hc i pins s σ H I t hg
    subst hP hw hK
    obtain ⟨vs, hq, hv⟩ := hg
    obtain ⟨its, rv, p, hz⟩ := I.tuple hq
    have hl := rv.length
    have := Draws.tuple (prog := X.prog) (w := X.w) (A := X.A.in1) (show X.A.in1.handled = none from I.ok.hd hc) it a hne its.toArray
    rw [show its.toArray.size = i by simp; omega] at this
    exact ⟨_, _, this, t, p⟩
/-- a text's signs -/
def GoS (x : Str) : Nat → Hp → V → Prop := fun i _ v => ∃ c, x.cps[i]? = some c ∧ v = .str ⟨#[c]⟩
def ZS (x : Str) : Nat → Hp → Prop := fun i _ => x.cps.size = i
theorem src_str {P : Program} {w : World} {K : PySem.W.Frag} {it : Addr} {x : Str} {tk0 : Tok} : Src P w K it [it] (fun i h => h.IsStrIter it (strIterType x) x tk0 i) (GoS x) (GoS x) (ZS x) where
  live := fun i h t => by
    obtain ⟨o, ho, hc, hd⟩ := t
    exact ⟨o, ho, fun v q => by rw [hd] at q; cases q⟩
  frame := fun i h h' t k => let ⟨o, ho, r⟩ := t; ⟨o, k o ho, r⟩
  item := by
    intro X hP hw hK hc i pins s σ H v I t hg
    subst hP hw hK
    obtain ⟨c, hcx, rfl⟩ := hg
    refine ⟨⟨c, hcx, rfl⟩, x.cps.size, fun i v => ∃ c u, x.cps[i]? = some c ∧ v = .str ⟨#[c]⟩ u, fun i h => h.IsStrIter it (strIterType x) x tk0 i, Draws.text (A := X.A.in1) (show X.A.in1.handled = none from I.ok.hd hc) it x tk0, t, ?_, fun u' e => ?_, fun h' x => x⟩
    · exact (Array.getElem?_eq_some_iff.mp hcx).1
    · obtain ⟨c', u, e1, rfl⟩ := e
      rw [hcx] at e1
      cases e1
      exact ⟨_, rfl⟩
  done := by
    intro X hP hw hK hc i pins s σ H I t hg
    subst hP hw hK
    have hg : x.cps.size = i := hg
    subst hg
    exact ⟨_, fun i h => h.IsStrIter it (strIterType x) x tk0 i, Draws.text (A := X.A.in1) (show X.A.in1.handled = none from I.ok.hd hc) it x tk0, t⟩
/-! enumerate(v) begins -/
theorem meets_enum1 {v : Value} {o : Obj} {H : Heap → Prop} (B : Begins v o H) :
    Meets (Builtin.«enumerate.__new__» ⟨[.type "enumerate", v], []⟩) (fun _ R s => H s.heap ∧
      R (.ok (.ret (.ref (s.heap.push o).objs.size))) { s with heap := (s.heap.push o).push { cls := .type "enumerate", data := .fields #[.none, .bool false, .ref s.heap.objs.size, rawInt 0, .none, .none] } }) :=
  .of_wp fun prog w A R s h => by
    obtain ⟨hp, g, d, tk, os⟩ := s
    obtain ⟨h1, h⟩ := h
    have hsub := sub_enumerate
    have q1 : ∀ {A' : Around} {E : Value → Shared → Prop} {Q : Value → Shared → Prop}, Q (.ref hp.objs.size) ⟨hp.push o, g, d, tk, os⟩ → wpAny (model prog w) A' (pyIter v) Q E ⟨hp, g, d, tk, os⟩ :=
      fun q => B.iter prog w _ _ ⟨hp, g, d, tk, os⟩ _ h1 q
    wp_walk using q1
    refine wpAny_stack_any fun st => wpAny_pure ?_
    split
    · rename_i c _ _ _ _ _
      cases (c == Value.type "enumerate")
      · wp_walk using q1
        exact ⟨_, rfl, h⟩
      · wp_walk using q1
        exact ⟨_, rfl, h⟩
    · wp_walk using q1
      exact ⟨_, rfl, h⟩
theorem enum_begins1 {prog : Program} {w : World} {A : Around} {E : Value → Shared → Prop} {s : Shared} {v : Value} {o : Obj} {H : Heap → Prop} {Q : Value → Shared → Prop} (B : Begins v o H) (h1 : H s.heap)
    (h : ∀ h', IsEnum h' (s.heap.objs.size + 1) s.heap.objs.size 0 .none → h'.get? s.heap.objs.size = some o → (∀ b o, s.heap.get? b = some o → h'.get? b = some o) → Q (.ref (s.heap.objs.size + 1)) { s with heap := h' }) :
    wpAny (model prog w) A (call (.type "enumerate") [v]) Q E s := by
  refine callType_new F.called_enumerate (by decide) (F.typeCall_enumerate_1 _) (F.newCall_enumerate_1 _) (fun obj => F.args_object_init_2 obj _) F.entry_enumerate_new (meets_enum1 B) ⟨h1, ?_⟩
  have hz : (s.heap.push o).objs.size = s.heap.objs.size + 1 := Heap.size_push ..
  show _ ∧ _
  rw [hz]
  have he : IsEnum ((s.heap.push o).push { cls := .type "enumerate", data := .fields #[.none, .bool false, .ref s.heap.objs.size, rawInt 0, .none, .none] }) (s.heap.objs.size + 1) s.heap.objs.size 0 .none := by
    have := Heap.get?_push_size (s.heap.push o) (o := { cls := .type "enumerate", data := .fields #[.none, .bool false, .ref s.heap.objs.size, rawInt 0, .none, .none] }) rfl
    rw [hz] at this; exact this
  exact ⟨⟨_, he, rfl⟩, h _ he (Heap.get?_push_of_some _ (Heap.get?_push_size _ B.free)) fun b o x => Heap.get?_push_of_some _ (Heap.get?_push_of_some _ x)⟩
def EnumQ (K : PySem.W.Frag) (R : It → Hp → Prop) : List V → Hp → Prop
  | [v], H1 => (∃ a vs, v = .ref a ∧ SqL K H1 a vs ∧ R (Ite K a) H1) ∨ (∃ a vs, v = .ref a ∧ SqT K H1 a vs ∧ R (Itn (GoT K a) (UT K a) (ZT K a)) H1) ∨ ∃ x, v = .str x ∧ R (Itn (GoS x) (GoS x) (ZS x)) H1
  | _, _ => False
def iEnumN (K : PySem.W.Frag) (te : TE) : L2.TI := fun σ H R => te σ H fun v H1 => EnumQ K R [v] H1
theorem pi_enumN {X : Cx} {e : Expr} {te : TE} {p pos tpos : Pos} {elts : List Expr} {kk : Nat} (hg : Gl X "enumerate") (hm : X.mg "enumerate" = none) (he : PE X e te) (hs : starEach [e] X.env = [(false, eval e X.env)] := by rfl) :
    PI X (.Tuple elts kk tpos) (.Call (.Name "enumerate" p) [e] [] pos) (iEnumN X.K te) := by
  have ha : PA X [e] (fun σ H Q => te σ H fun x H1 => Q [x] H1) := pa_cons he pa_nil (by rw [hs]; rfl)
  refine ⟨fun pins s σ H R I h => ?_⟩
  refine Call_ (ld_blt I hg hm boot_enumerate (PyProof.Rows.callWith_type1 (thn (ha.run pos pins s σ H (EnumQ X.K R) I h) fun us s1 ⟨vs, H1, I1, r1, q1⟩ => ?_) hs rfl))
  obtain ⟨v, ex, q⟩ : ∃ v, vs = [v] ∧ EnumQ X.K R [v] H1 := by
    match vs, q1 with
    | [v], q1 => exact ⟨v, rfl, q1⟩
  subst ex
  cases r1 with
  | cons r rr =>
    cases rr
    have fpk : ∀ (h' : Heap), Inv X pins σ H1 { s1 with heap := h' } → ∀ b ∈ [s1.heap.objs.size + 1, s1.heap.objs.size], FpOk X pins H1 b := fun h' I2 b hb => by
      have e' : b = s1.heap.objs.size + 1 ∨ b = s1.heap.objs.size := by simpa using hb
      have hle : s1.heap.objs.size ≤ b := by
        rcases e' with z | z
        · rw [z]; exact Nat.le_add_right _ _
        · rw [z]; exact Nat.le_refl _
      exact I1.fpOk hle (I1.hok.fresh hle)
    rcases q with ⟨a, vs, rfl, hq, q⟩ | ⟨a, vs, rfl, hq, q⟩ | ⟨x, rfl, q⟩
    · cases r
      obtain ⟨its, rv, p', hz⟩ := I1.list hq
      refine call_enumerate_list p'.isList fun h' he hit hsz hk => wpAny_pyIter_enum he ?_
      have I2 : Inv X pins σ H1 { s1 with heap := h' } := I1.kept (t' := s1.toks) hk
      exact ⟨s1.heap.objs.size + 1, [s1.heap.objs.size + 1, s1.heap.objs.size], _, _, H1, rfl, I2, turn_enum a (s1.heap.objs.size + 1) s1.heap.objs.size, ⟨⟨.none, he⟩, hit, Nat.succ_ne_self _⟩, fpk h' I2, q⟩
    · cases r
      obtain ⟨its, rv, p', hz⟩ := I1.tuple hq
      have la : a < s1.heap.objs.size := by obtain ⟨_, e, _⟩ := p'; exact Heap.lt_size e
      refine enum_begins1 (begins_tuple a its.toArray) p' fun h' he hit hk => wpAny_pyIter_enum he ?_
      have I2 : Inv X pins σ H1 { s1 with heap := h' } := I1.kept (t' := s1.toks) hk
      exact ⟨s1.heap.objs.size + 1, [s1.heap.objs.size + 1, s1.heap.objs.size], _, _, H1, rfl, I2, turn_enumN (src_tup (Nat.ne_of_lt la)) (Nat.succ_ne_self _) (fun z => by
        rcases List.mem_cons.mp z with z | z
        · exact Nat.succ_ne_self _ z
        · have z := List.mem_singleton.mp z
          rw [← z] at la
          exact absurd la (Nat.not_lt.mpr (Nat.le_succ _))), ⟨⟨.none, he⟩, ⟨_, hit, rfl, rfl⟩⟩, fpk h' I2, q⟩
    · obtain ⟨t, rfl⟩ := r
      refine enum_begins1 (begins_text x t) trivial fun h' he hit hk => wpAny_pyIter_enum he ?_
      have I2 : Inv X pins σ H1 { s1 with heap := h' } := I1.kept (t' := s1.toks) hk
      exact ⟨s1.heap.objs.size + 1, [s1.heap.objs.size + 1, s1.heap.objs.size], _, _, H1, rfl, I2, turn_enumN (src_str (x := x) (tk0 := t)) (Nat.succ_ne_self _) (by simp), ⟨⟨.none, he⟩, ⟨_, hit, rfl, rfl⟩⟩, fpk h' I2, q⟩
/-! as data -/
section
variable {K : PySem.W.Frag}
theorem EIF.pushPair {G : Gh} {st : List TI} {ρ : List Sl} {σ : L2.St} {H : Hp} {F : Addr → Prop} {fp : Bool → Nat → List Addr} {d e : D} {x y : V} {T : Addr} (I : EIF K G st ρ σ H F fp) (hT : H T = none) (rx : Rep K F H d x) (ry : Rep K F H e y) : EI K G (.t .f (.tup [d, e]) (.ref T) :: st) ρ σ (upd H T (.tup [x, y])) := by
  have ext := Ext.putF (o := .tup [x, y]) I.lv hT
  refine I.pushNew (q := []) ext ?_ fun a m => nomatch m
  unfold RepO
  refine ⟨rfl, ?_⟩
  unfold Rep
  refine ⟨T, _, rfl, .inl ⟨.inr (by simp), .inl upd_same⟩, ?_⟩
  unfold RepL
  refine ⟨_, _, rfl, Rep.mono ext.more ext.stays _ _ rx, ?_⟩
  unfold RepL
  exact ⟨_, _, rfl, Rep.mono ext.more ext.stays _ _ ry, by unfold RepL; rfl⟩
theorem enumD_at {ds : List D} {i : Nat} {d : D} (e : (enumD ds)[i]? = some d) : ∃ x, ds[i]? = some x ∧ d = .tup [.int (i : Nat), x] := by
  unfold enumD at e
  rw [List.getElem?_map] at e
  obtain ⟨j, ej, rfl⟩ := Option.map_eq_some_iff.mp e
  obtain ⟨hj, e2⟩ := List.getElem?_eq_some_iff.mp ej
  simp only [List.length_range] at hj
  simp only [List.getElem_range] at e2
  subst e2
  have ed : ds[i]? = some ds[i] := List.getElem?_eq_getElem hj
  exact ⟨ds[i], ed, by rw [List.getD_eq_getElem?_getD, ed]; rfl⟩
theorem enumD_len (ds : List D) : (enumD ds).length = ds.length := by simp [enumD]
theorem yields_enumT {a : Addr} {ds : List D} : Yields K (Itn (GoT K a) (UT K a) (ZT K a)) (.t .f (.tup ds) (.ref a)) (enumD ds) where
  go := fun G st ρ σ H i d ⟨F, fp, I⟩ e => by
    obtain ⟨x, ed, rfl⟩ := enumD_at e
    have r := rep_f (I.ti 0)
    unfold Rep at r
    obtain ⟨a', vs, e1, la, rl⟩ := r
    cases e1
    obtain ⟨v, ev, rv⟩ := rl.get ed
    refine ⟨⟨v, vs, la.sq, ev⟩, fun x H' ⟨T, y, ex, hT, eH, hy⟩ => ?_⟩
    subst ex
    subst eH
    have := hy vs la.sq
    rw [ev] at this
    cases this
    exact I.pushPair hT (by unfold Rep; rfl) rv
  stop := fun G st ρ σ H ⟨F, fp, I⟩ => by
    have r := rep_f (I.ti 0)
    unfold Rep at r
    obtain ⟨a', vs, e1, la, rl⟩ := r
    cases e1
    exact ⟨vs, la.sq, by rw [enumD_len]; exact rl.len.symm⟩
  keeps := rfl
theorem yields_enumS {x : Str} {v : V} : Yields K (Itn (GoS x) (GoS x) (ZS x)) (.t .f (.str x) v) (enumD (x.cps.toList.map signD)) where
  go := fun G st ρ σ H i d ⟨F, fp, I⟩ e => by
    obtain ⟨y, ed, rfl⟩ := enumD_at e
    rw [List.getElem?_map] at ed
    obtain ⟨c, ec, rfl⟩ := Option.map_eq_some_iff.mp ed
    rw [Array.getElem?_toList] at ec
    refine ⟨⟨_, c, ec, rfl⟩, fun x H' ⟨T, y, ex, hT, eH, c', e1, e2⟩ => ?_⟩
    subst ex
    subst eH
    rw [ec] at e1
    cases e1
    subst e2
    exact I.pushPair hT (by unfold Rep; rfl) (by unfold signD Rep; rfl)
  stop := fun G st ρ σ H I => by
    show x.cps.size = _
    rw [enumD_len]
    simp
  keeps := rfl
end
def enumI2 (T : List Sl → EO) : List Sl → IO := fun ρ => (T ρ).bindI fun p k m d ρ1 => match k, m, d with
  | .t, .f, .lst ds => .ok p (enumD ds) ρ1
  | .t, .f, .tup ds => .ok p (enumD ds) ρ1
  | .t, .f, .str x => .ok p (enumD (x.cps.toList.map signD)) ρ1
  | _, _, _ => .no
/-- lists, tuples, texts, dicts' keys, walked -/
def anyI (T : List Sl → EO) : List Sl → IO := fun ρ => (T ρ).bindI fun p k m d ρ1 => match k, m, d with
  | .t, .f, .lst ds => .ok p ds ρ1
  | .t, .f, .tup ds => .ok p ds ρ1
  | .t, .f, .str x => .ok p (x.cps.toList.map signD) ρ1
  | .t, .f, .dct kvs => .ok p (kvs.map (·.1)) ρ1
  | _, _, _ => .no
section
variable {X : Cx} {W : WX} {tg e : Expr} {T : List Sl → EO} {p pos : Pos}
theorem fi_enum2 {tpos : Pos} {elts : List Expr} {kk : Nat} (hg : Gl X "enumerate") (hm : X.mg "enumerate" = none) (he : FE X W e T) (hs : starEach [e] X.env = [(false, eval e X.env)] := by rfl) : FI X W (.Tuple elts kk tpos) (.Call (.Name "enumerate" p) [e] [] pos) (enumI2 T) := by
  refine PI.imp (pi_enumN hg hm he hs) fun σ H R ⟨G, st, ρ, I, h⟩ => ⟨G, st, ρ, I, Aft.bindI h fun p k m d ρ1 ex h v H1 I1 => ?_⟩
  cases k with
  | t =>
    cases m with
    | f =>
      cases d with
      | lst ds =>
        obtain ⟨F, fp, I2⟩ := id I1
        have r := rep_f (I2.ti 0)
        unfold Rep at r
        obtain ⟨a, vs, rfl, la, rl⟩ := r
        exact .inl ⟨a, vs, rfl, la.sq, h _ _ _ I1 yields_enum⟩
      | tup ds =>
        obtain ⟨F, fp, I2⟩ := id I1
        have r := rep_f (I2.ti 0)
        unfold Rep at r
        obtain ⟨a, vs, rfl, la, rl⟩ := r
        exact .inr (.inl ⟨a, vs, rfl, la.sq, h _ _ _ I1 yields_enumT⟩)
      | str x =>
        obtain ⟨F, fp, I2⟩ := id I1
        have r := rep_f (I2.ti 0)
        unfold Rep at r
        exact .inr (.inr ⟨x, r, h _ _ _ I1 yields_enumS⟩)
      | _ => exact h.elim
    | _ => exact h.elim
  | _ => exact h.elim
end
end FL

namespace FL
open PySem PySem.Spec PyProof.Rows L2
/-! ### dicts walked -/
def keysI (T : List Sl → EO) : List Sl → IO := fun ρ => (T ρ).bindI fun p k m d ρ1 => match k, m, d with
  | .t, .f, .dct kvs => .ok p (kvs.map (·.1)) ρ1
  | _, _, _ => .no
def valsI (T : List Sl → EO) : List Sl → IO := fun ρ => (T ρ).bindI fun p k m d ρ1 => match k, m, d with
  | .t, .f, .dct kvs => .ok p (kvs.map (·.2)) ρ1
  | _, _, _ => .no
def itemsI (T : List Sl → EO) : List Sl → IO := fun ρ => (T ρ).bindI fun p k m d ρ1 => match k, m, d with
  | .t, .f, .dct kvs => .ok p (kvs.map fun kv => .tup [kv.1, kv.2]) ρ1
  | _, _, _ => .no
section
variable {K : PySem.W.Frag} {F : Addr → Prop} {H : Hp}
theorem RepK.get : ∀ {kvs : List (D × D)} {gs : List (Key × V)} {i : Nat} {d : D × D}, RepK K F H kvs gs → kvs[i]? = some d → ∃ k v, gs[i]? = some (k, v) ∧ d.1 = dK k ∧ Rep K F H d.2 v
  | [], gs, i, d, r, e => by simp at e
  | (q, w) :: kvs, gs, 0, d, r, e => by
    unfold RepK at r
    obtain ⟨k, v, t, rfl, ek, x, y⟩ := r
    simp only [List.getElem?_cons_zero, Option.some.injEq] at e
    subst e
    exact ⟨k, v, rfl, ek, x⟩
  | (q, w) :: kvs, gs, i + 1, d, r, e => by
    unfold RepK at r
    obtain ⟨k, v, t, rfl, ek, x, y⟩ := r
    simpa using RepK.get y (by simpa using e)
theorem rep_key {k : Key} : Rep K F H (dK k) (kV k) := by cases k <;> (unfold dK Rep; rfl)
theorem dct_rep {kvs : List (D × D)} {v : V} (r : Rep K F H (.dct kvs) v) : ∃ a gs od, v = .ref a ∧ F a ∧ H a = some (.frz od (.dK gs)) ∧ RepK K F H kvs gs := by
  unfold Rep at r
  exact r
theorem rep_dK {k : Key} {v : V} (e : v = kV k) : Rep K F H (dK k) v := by rw [e]; exact rep_key
/-- a locked dict's own entries -/
def Pin (K : PySem.W.Frag) (kvs : List (D × D)) (a : Addr) (od : Obj) (gs : List (Key × V)) : (Addr → Prop) → Hp → Prop := fun F H => F a ∧ H a = some (.frz od (.dK gs)) ∧ RepK K F H kvs gs
theorem pin_stab {kvs : List (D × D)} {a : Addr} {od : Obj} {gs : List (Key × V)} : Stab (Pin K kvs a od gs) := fun F F' H H' m s p => ⟨m a p.1, s a _ p.1 p.2.1, RepK.mono m s _ _ p.2.2⟩
theorem EIF.pinned {G : Gh} {st : List TI} {ρ : List Sl} {σ : L2.St} {kvs : List (D × D)} {a : Addr} {fp : Bool → Nat → List Addr} (I : EIF K G (.t .f (.dct kvs) (.ref a) :: st) ρ σ H F fp) : ∃ od gs, H a = some (.frz od (.dK gs)) ∧ RepK K F H kvs gs ∧ EI K G (.w (Pin K kvs a od gs) :: st) ρ σ H := by
  obtain ⟨a', gs, od, e, f, h, r⟩ := dct_rep (rep_f (I.ti 0))
  cases e
  exact ⟨od, gs, h, r, F, _, I.pop.push (t := .w (Pin K kvs a od gs)) (q := []) ⟨rfl, pin_stab, f, h, r⟩ (fun a m => nomatch m) fun a m => nomatch m⟩
theorem list_of_len {α β : Type} {f : α → β} {l : List α} {i : Nat} {d : β} (e : (l.map f)[i]? = some d) : ∃ x, l[i]? = some x ∧ d = f x := by
  rw [List.getElem?_map] at e
  obtain ⟨x, ex, rfl⟩ := Option.map_eq_some_iff.mp e
  exact ⟨x, ex, rfl⟩
theorem yields_keys {a : Addr} {kvs : List (D × D)} {od : Obj} {gs : List (Key × V)} : Yields K (Itk a od gs) (.w (Pin K kvs a od gs)) (kvs.map (·.1)) where
  go := fun G st ρ σ H i d ⟨F, fp, I⟩ e => by
    obtain ⟨_, _, f, h, r⟩ := I.ti 0
    obtain ⟨kv, ekv, rfl⟩ := list_of_len e
    obtain ⟨k, v, eg, ek, rv⟩ := r.get ekv
    refine ⟨⟨h, (List.getElem?_eq_some_iff.mp eg).1⟩, fun x H' ⟨e1, k', v', e2, e3⟩ => ?_⟩
    subst e1
    rw [eg] at e2
    cases e2
    exact I.pushRep (by rw [ek]; exact rep_dK e3)
  stop := fun G st ρ σ H ⟨F, fp, I⟩ => by
    obtain ⟨_, _, f, h, r⟩ := I.ti 0
    exact ⟨h, by rw [List.length_map, r.len]; exact Nat.le_refl _⟩
  keeps := rfl
theorem yields_vals {a : Addr} {kvs : List (D × D)} {od : Obj} {gs : List (Key × V)} : Yields K (Itd a od gs) (.w (Pin K kvs a od gs)) (kvs.map (·.2)) where
  go := fun G st ρ σ H i d ⟨F, fp, I⟩ e => by
    obtain ⟨_, _, f, h, r⟩ := I.ti 0
    obtain ⟨kv, ekv, rfl⟩ := list_of_len e
    obtain ⟨k, v, eg, ek, rv⟩ := r.get ekv
    refine ⟨⟨h, (List.getElem?_eq_some_iff.mp eg).1⟩, fun x H' ⟨e1, k', e2⟩ => ?_⟩
    subst e1
    rw [eg] at e2
    cases e2
    exact I.pushRep rv
  stop := fun G st ρ σ H ⟨F, fp, I⟩ => by
    obtain ⟨_, _, f, h, r⟩ := I.ti 0
    exact ⟨h, by rw [List.length_map, r.len]; exact Nat.le_refl _⟩
  keeps := rfl
theorem yields_items {a : Addr} {kvs : List (D × D)} {od : Obj} {gs : List (Key × V)} : Yields K (Iti a od gs) (.w (Pin K kvs a od gs)) (kvs.map fun kv => .tup [kv.1, kv.2]) where
  go := fun G st ρ σ H i d ⟨F, fp, I⟩ e => by
    obtain ⟨_, _, f, h, r⟩ := I.ti 0
    obtain ⟨kv, ekv, rfl⟩ := list_of_len e
    obtain ⟨k, v, eg, ek, rv⟩ := r.get ekv
    refine ⟨⟨h, (List.getElem?_eq_some_iff.mp eg).1⟩, fun x H' ⟨T, k', v', e2, e3, e4, e5⟩ => ?_⟩
    subst e3
    subst e5
    rw [eg] at e2
    cases e2
    rw [ek]
    exact I.pushPair e4 rep_key rv
  stop := fun G st ρ σ H ⟨F, fp, I⟩ => by
    obtain ⟨_, _, f, h, r⟩ := I.ti 0
    exact ⟨h, by rw [List.length_map, r.len]; exact Nat.le_refl _⟩
  keeps := rfl
end
section
variable {X : Cx} {W : WX} {tg e : Expr} {T : List Sl → EO} {p pos apos cpos : Pos}
theorem fi_keys (h : FE X W e T) : FI X W tg e (keysI T) := by
  refine PI.imp (pi_keys h) fun σ H R ⟨G, st, ρ, I, h⟩ => ⟨G, st, ρ, I, Aft.bindI h fun p k m d ρ1 ex h v H1 I1 => ?_⟩
  cases k with
  | t =>
    cases m with
    | f =>
      cases d with
      | dct kvs =>
        obtain ⟨F, fp, I2⟩ := id I1
        obtain ⟨a, gs, od, rfl, f, hh, r⟩ := dct_rep (rep_f (I2.ti 0))
        obtain ⟨od, gs, hh, r, I3⟩ := I2.pinned
        exact ⟨a, od, rfl, .inl ⟨gs, hh, h _ _ _ I3 yields_keys⟩⟩
      | _ => exact h.elim
    | _ => exact h.elim
  | _ => exact h.elim
theorem fi_values (h : FE X W e T) (hbase : attributeBase e "values" X.env (eval e X.env) = eval e X.env := by rfl) (hline : (apos.endLine == cpos.line) = true := by rfl) : FI X W tg (.Call (.Attribute e "values" apos) [] [] cpos) (valsI T) := by
  refine PI.imp (pi_values h hbase hline) fun σ H R ⟨G, st, ρ, I, h⟩ => ⟨G, st, ρ, I, Aft.bindI h fun p k m d ρ1 ex h v H1 I1 => ?_⟩
  cases k with
  | t =>
    cases m with
    | f =>
      cases d with
      | dct kvs =>
        obtain ⟨F, fp, I2⟩ := id I1
        obtain ⟨a, gs, od, rfl, f, hh, r⟩ := dct_rep (rep_f (I2.ti 0))
        obtain ⟨od, gs, hh, r, I3⟩ := I2.pinned
        exact ⟨a, od, gs, rfl, hh, h _ _ _ I3 yields_vals⟩
      | _ => exact h.elim
    | _ => exact h.elim
  | _ => exact h.elim
theorem fi_items {elts : List Expr} {kk : Nat} {tpos : Pos} (h : FE X W e T) (hbase : attributeBase e "items" X.env (eval e X.env) = eval e X.env := by rfl) (hline : (apos.endLine == cpos.line) = true := by rfl) : FI X W (.Tuple elts kk tpos) (.Call (.Attribute e "items" apos) [] [] cpos) (itemsI T) := by
  refine PI.imp (pi_items h hbase hline) fun σ H R ⟨G, st, ρ, I, h⟩ => ⟨G, st, ρ, I, Aft.bindI h fun p k m d ρ1 ex h v H1 I1 => ?_⟩
  cases k with
  | t =>
    cases m with
    | f =>
      cases d with
      | dct kvs =>
        obtain ⟨F, fp, I2⟩ := id I1
        obtain ⟨a, gs, od, rfl, f, hh, r⟩ := dct_rep (rep_f (I2.ti 0))
        obtain ⟨od, gs, hh, r, I3⟩ := I2.pinned
        exact ⟨a, od, gs, rfl, hh, h _ _ _ I3 yields_items⟩
      | _ => exact h.elim
    | _ => exact h.elim
  | _ => exact h.elim
/-- whatever is walked -/
theorem fi_any (h : FE X W e T) : FI X W tg e (anyI T) := by
  refine ⟨fun pins s σ H R I q => ?_⟩
  obtain ⟨G, st, ρ, J, q⟩ := q
  have go : ∀ (it : List Sl → IO), FI X W tg e it → it ρ = anyI T ρ → wpAny (model X.prog X.w) X.A (eval e X.env) (fun v s1 => wpAny (model X.prog X.w) X.A (pyIter v) (PIE X pins σ tg R) X.xe s1) X.xe s := fun it f ei =>
    PI.run f pins s σ H R I ⟨G, st, ρ, J, by rw [ei]; exact q⟩
  have eA : anyI T ρ = (T ρ).bindI fun p k m d ρ1 => match k, m, d with
    | .t, .f, .lst ds => .ok p ds ρ1
    | .t, .f, .tup ds => .ok p ds ρ1
    | .t, .f, .str x => .ok p (x.cps.toList.map signD) ρ1
    | .t, .f, .dct kvs => .ok p (kvs.map (·.1)) ρ1
    | _, _, _ => .no := rfl
  cases et : T ρ with
  | no => exact go (lstI T) (fi_lst h) (by unfold lstI; rw [eA, et]; rfl)
  | ex C fs ρ1 => exact go (lstI T) (fi_lst h) (by unfold lstI; rw [eA, et]; rfl)
  | ok p k m d ρ1 =>
    cases k with
    | t =>
      cases m with
      | f =>
        cases d with
        | lst ds => exact go (lstI T) (fi_lst h) (by unfold lstI; rw [eA, et]; rfl)
        | tup ds => exact go (tupI T) (fi_tup h) (by unfold tupI; rw [eA, et]; rfl)
        | str x => exact go (strI T) (fi_str h) (by unfold strI; rw [eA, et]; rfl)
        | dct kvs => exact go (keysI T) (fi_keys h) (by unfold keysI; rw [eA, et]; rfl)
        | _ => rw [eA, et] at q; exact q.elim
      | _ => rw [eA, et] at q; exact q.elim
    | _ => rw [eA, et] at q; exact q.elim
end
/-! ### zip of two lists -/
def zipD : List D → List D → List D
  | x :: xs, y :: ys => .tup [x, y] :: zipD xs ys
  | _, _ => []
theorem zipD_at : ∀ {xs ys : List D} {i : Nat} {d : D}, (zipD xs ys)[i]? = some d → ∃ x y, xs[i]? = some x ∧ ys[i]? = some y ∧ d = .tup [x, y]
  | [], ys, i, d, e => by simp [zipD] at e
  | x :: xs, [], i, d, e => by simp [zipD] at e
  | x :: xs, y :: ys, 0, d, e => by
    simp [zipD] at e
    exact ⟨x, y, rfl, rfl, e.symm⟩
  | x :: xs, y :: ys, i + 1, d, e => by
    simp only [zipD, List.getElem?_cons_succ] at e
    simpa using zipD_at e
theorem zipD_len : ∀ (xs ys : List D), xs.length ≤ (zipD xs ys).length ∨ ys.length ≤ (zipD xs ys).length
  | [], ys => by simp
  | x :: xs, [] => by simp
  | x :: xs, y :: ys => by
    rcases zipD_len xs ys with h | h
    · exact .inl (by simp [zipD]; exact h)
    · exact .inr (by simp [zipD]; exact h)
def lstsA : List (AK × M × D) → Option (List D × List D)
  | [(.k .t, .f, .lst xs), (.k .t, .f, .lst ys)] => some (xs, ys)
  | _ => none
def zipI (Ts : List Sl → AO) : List Sl → IO := fun ρ => (Ts ρ).bindI fun p its ρ1 => .of p ρ1 ((lstsA its).map fun r => zipD r.1 r.2)
/-- two lists, held -/
def Two (K : PySem.W.Frag) (xs ys : List D) (a b : Addr) : (Addr → Prop) → Hp → Prop := fun F H => Rep K F H (.lst xs) (.ref a) ∧ Rep K F H (.lst ys) (.ref b)
theorem two_stab {K : PySem.W.Frag} {xs ys : List D} {a b : Addr} : Stab (Two K xs ys a b) := fun F F' H H' m s p => ⟨Rep.mono m s _ _ p.1, Rep.mono m s _ _ p.2⟩
theorem yields_zip {K : PySem.W.Frag} {a b : Addr} {xs ys : List D} : Yields K (Itz K a b) (.w (Two K xs ys a b)) (zipD xs ys) where
  go := by
    intro G st ρ σ H i d ⟨F, fp, I⟩ e
    obtain ⟨_, _, r, r'⟩ := I.ti 0
    obtain ⟨x, y, ex, ey, rfl⟩ := zipD_at e
    unfold Rep at r r'
    obtain ⟨a', vs, e1, la, rl⟩ := r
    cases e1
    obtain ⟨b', ws, e1, lb, rl'⟩ := r'
    cases e1
    obtain ⟨v, ev, rv⟩ := rl.get ex
    obtain ⟨w, ew, rw'⟩ := rl'.get ey
    refine ⟨⟨vs, ws, v, w, la.sq, lb.sq, ev, ew⟩, fun z H' ⟨T, v', w', ez, hT, eH, h1, h2⟩ => ?_⟩
    subst ez
    subst eH
    have := h1 vs la.sq
    rw [ev] at this
    cases this
    have := h2 ws lb.sq
    rw [ew] at this
    cases this
    exact I.pushPair hT rv rw'
  stop := fun G st ρ σ H ⟨F, fp, I⟩ => by
    obtain ⟨_, _, r, r'⟩ := I.ti 0
    unfold Rep at r r'
    obtain ⟨a', vs, e1, la, rl⟩ := r
    cases e1
    obtain ⟨b', ws, e1, lb, rl'⟩ := r'
    cases e1
    refine ⟨vs, ws, la.sq, lb.sq, ?_⟩
    rw [← rl.len, ← rl'.len]
    exact zipD_len xs ys
  keeps := rfl
theorem lstsA_at {its : List (AK × M × D)} {r : List D × List D} (h : lstsA its = some r) : its = [(.k .t, .f, .lst r.1), (.k .t, .f, .lst r.2)] := by
  unfold lstsA at h
  split at h
  · cases h
    rfl
  · cases h
theorem fi_zip {X : Cx} {W : WX} {e e2 : Expr} {Ts : List Sl → AO} {p pos tpos : Pos} {elts : List Expr} {kk : Nat} (hg : Gl X "zip") (hm : X.mg "zip" = none) (ha : FA X W [e, e2] Ts)
    (hs : starEach [e, e2] X.env = (false, eval e X.env) :: starEach [e2] X.env := by rfl) (hpl : (backTo pos (starEach [e2] X.env)).any (·.1) = false := by rfl) : FI X W (.Tuple elts kk tpos) (.Call (.Name "zip" p) [e, e2] [] pos) (zipI Ts) := by
  refine PI.imp (pi_zip hg hm ha hs hpl) fun σ H R ⟨G, st, ρ, I, h⟩ => ⟨G, st, ρ, I, AftA.bindI h fun p its ρ1 ex h vs H1 hl I1 => ?_⟩
  cases ec : lstsA its with
  | none => simp only [ec, Option.map_none, IO.of] at h
  | some r =>
    have ei := lstsA_at ec
    subst ei
    simp only [ec, Option.map_some, IO.of] at h
    match vs, hl with
    | [v, w], hl =>
      obtain ⟨F, fp, I2⟩ := I1
      have I2 : EIF X.K G (.t .f (.lst r.2) w :: .t .f (.lst r.1) v :: FL.dims p st) ρ1 σ H1 F fp := I2
      have r2 := rep_f (I2.ti 0)
      have r1 := rep_f (I2.ti 1)
      have r1' := r1
      have r2' := r2
      unfold Rep at r1' r2'
      obtain ⟨a, xs, rfl, la, _⟩ := r1'
      obtain ⟨b, ys, rfl, lb, _⟩ := r2'
      refine ⟨a, b, xs, ys, rfl, la.sq, lb.sq, h _ _ _ ⟨F, _, I2.pop.pop.push (t := .w (Two X.K r.1 r.2 a b)) (q := []) ⟨rfl, two_stab, r1, r2⟩ (fun a m => nomatch m) fun a m => nomatch m⟩ yields_zip⟩
end FL

namespace FL
open PySem PySem.Spec PyProof.Rows L2
theorem dims_id (p : Bool) (st : List TI) : dims p st = st := by
  cases p
  · unfold dims
    rw [if_neg Bool.false_ne_true]
    have : (TI.dim : TI → TI) = id := by funext t; cases t <;> rfl
    rw [this, List.map_id]
  · rfl
/-! ### *x in arguments and displays -/
def fItem (d : D) : AK × M × D := (.k .t, .f, d)
def AO.app (p : Bool) (as : List (AK × M × D)) : AO → AO
  | .ok p2 its ρ => .ok (p && p2) (as ++ its) ρ
  | .ex C fs ρ => .ex C fs ρ
  | .no => .no
def starA (T : List Sl → EO) (Ts : List Sl → AO) : List Sl → AO := fun ρ => (T ρ).bindA fun p k m d ρ1 => match k, sqD (m, d) with
  | .t, some ds => (Ts ρ1).app p (ds.map fItem)
  | _, _ => .no
section
variable {K : PySem.W.Frag} {W : WX} {G : Gh} {st st1 : List TI} {ρ : List Sl} {σ : L2.St} {H : Hp} {F : Addr → Prop}
theorem stackA_app : ∀ (as bs : List (AK × M × D)) (vs ws : List V) (st : List TI), as.length = vs.length → stackA (as ++ bs) (vs ++ ws) st = stackA bs ws (stackA as vs st)
  | [], bs, [], ws, st, h => rfl
  | [], bs, _ :: _, ws, st, h => by simp at h
  | _ :: _, bs, [], ws, st, h => by simp at h
  | a :: as, bs, v :: vs, ws, st, h => by
    simp only [List.cons_append, stackA]
    exact stackA_app as bs vs ws _ (by simpa using h)
theorem EIF.pushParts : ∀ {ds : List D} {vs : List V} {st : List TI} {fp : Bool → Nat → List Addr}, RepL K F H ds vs → EIF K G st ρ σ H F fp → ∃ fp', EIF K G (stackA (ds.map fItem) vs st) ρ σ H F fp'
  | [], vs, st, fp, r, I => by
    unfold RepL at r
    subst r
    exact ⟨fp, I⟩
  | d :: ds, vs, st, fp, r, I => by
    unfold RepL at r
    obtain ⟨v, t, rfl, x, y⟩ := r
    have J := I.push (t := .t .f d v) (q := []) (by show RepO K F H .f d v []; unfold RepO; exact ⟨rfl, x⟩) (fun a m => nomatch m) fun a m => nomatch m
    have z := EIF.pushParts y J
    exact z
theorem EI.popAW {its : List (AK × M × D)} {vs : List V} {P : (Addr → Prop) → Hp → Prop} (hl : vs.length = its.length) (I : EI K G (.w P :: stackA its vs st) ρ σ H) : EI K G (.w P :: st) ρ σ H := by
  obtain ⟨F, fp, I⟩ := I
  obtain ⟨e, s, p⟩ := I.ti 0
  obtain ⟨fp', I', _⟩ := EIF.popA hl I.pop
  exact ⟨F, _, I'.push (t := .w P) (q := []) ⟨rfl, s, p⟩ (fun a m => nomatch m) fun a m => nomatch m⟩
theorem EI.popA {its : List (AK × M × D)} {vs : List V} (hl : vs.length = its.length) (I : EI K G (stackA its vs st) ρ σ H) : EI K G st ρ σ H := by
  obtain ⟨F, fp, I⟩ := I
  obtain ⟨fp', I', _⟩ := EIF.popA hl I
  exact ⟨F, fp', I'⟩
end
section
variable {X : Cx} {W : WX} {e : Expr} {es : List Expr} {T : List Sl → EO} {Ts : List Sl → AO} {p : Pos}
theorem fa_star (he : FE X W e T) (hr : FA X W es Ts) (hs : starEach (.Starred e p :: es) X.env = (true, eval e X.env) :: starEach es X.env := by rfl) : FA X W (.Starred e p :: es) (starA T Ts) := by
  refine PA.imp (StX.pa_star he hr hs) fun σ H Q ⟨G, st, ρ, I, h⟩ => ⟨G, st, ρ, I, Aft.bindA h (Over.refl st) fun p k m d ρ1 ex h v H1 I1 => ?_⟩
  cases k with
  | s k => exact h.elim
  | w => exact h.elim
  | t =>
    cases ec : sqD (m, d) with
    | none => simp only [ec] at h; exact h.elim
    | some ds =>
      simp only [ec] at h
      obtain ⟨F, fp, I2⟩ := I1
      obtain ⟨a, vs, rfl, hs1, rl⟩ := sqD_rep ec (show RepO X.K F H1 (m, d).1 (m, d).2 v _ from I2.ti 0)
      -- the parts are frozen
      have rl' : RepL X.K F H1 ds vs := rl
      obtain ⟨fp', I3⟩ := EIF.pushParts rl' I2.pop
      rw [dims_id] at I3
      refine ⟨a, vs, rfl, ?_, G, _, ρ1, ⟨F, fp', I3⟩, ?_⟩
      · exact hs1.symm
      have hl : vs.length = (ds.map fItem).length := by rw [List.length_map, rl.len]
      cases et : Ts ρ1 with
      | no => rw [et] at h; exact h.elim
      | ex C fs ρ2 =>
        rw [et] at h
        intro a gs H2 I4
        rw [dims_id] at I4
        exact h a gs H2 (by rw [dims_id]; exact I4.popAW hl)
      | ok p2 its ρ2 =>
        rw [et] at h
        intro ws H2 hl2 I4
        rw [dims_id] at I4
        refine h (vs ++ ws) H2 (by simp only [List.length_append]; rw [hl, hl2]) ?_
        rw [dims_id, stackA_app _ _ _ _ _ hl.symm]
        exact I4
end
/-! ### dicts are put -/
def putD (kvs : List (D × D)) (k v : D) : List (D × D) := if (kvs.any fun kv => decide (kv.1 = k)) = true then kvs.map (fun kv => if kv.1 = k then (kv.1, v) else kv) else kvs ++ [(k, v)]
section
variable {K : PySem.W.Frag} {F : Addr → Prop} {H : Hp}
theorem RepK.anyK : ∀ {kvs : List (D × D)} {gs : List (Key × V)} (k : Key), RepK K F H kvs gs → (kvs.any fun kv => decide (kv.1 = dK k)) = gs.any fun kv => decide (kv.1 = k)
  | [], gs, k, r => by unfold RepK at r; subst r; rfl
  | (q, d) :: kvs, gs, k, r => by
    unfold RepK at r
    obtain ⟨k', v, t, rfl, rfl, x, y⟩ := r
    rw [List.any_cons, List.any_cons, RepK.anyK k y]
    congr 1
    by_cases h : k' = k
    · subst h; simp
    · simp [h, show ¬ dK k' = dK k from fun e => h (dK_inj e)]
theorem RepK.repl {d : D} {v : V} (k : Key) (rv : Rep K F H d v) : ∀ {kvs : List (D × D)} {gs : List (Key × V)}, RepK K F H kvs gs → RepK K F H (kvs.map fun kv => if kv.1 = dK k then (kv.1, d) else kv) (gs.map fun kv => if kv.1 = k then (kv.1, v) else kv)
  | [], gs, r => by
    unfold RepK at r
    subst r
    unfold RepK
    rfl
  | (q, e) :: kvs, gs, r => by
    unfold RepK at r
    obtain ⟨k', w, t, rfl, rfl, x, y⟩ := r
    rw [List.map_cons, List.map_cons]
    by_cases h : k' = k
    · subst h
      rw [if_pos rfl, if_pos rfl]
      unfold RepK
      exact ⟨k', v, _, rfl, rfl, rv, RepK.repl k' rv y⟩
    · rw [if_neg (show ¬ dK k' = dK k from fun e => h (dK_inj e)), if_neg (show ¬ (k', w).1 = k from h)]
      unfold RepK
      exact ⟨k', w, _, rfl, rfl, x, RepK.repl k rv y⟩
theorem RepK.snoc {d : D} {v : V} (k : Key) (rv : Rep K F H d v) : ∀ {kvs : List (D × D)} {gs : List (Key × V)}, RepK K F H kvs gs → RepK K F H (kvs ++ [(dK k, d)]) (gs ++ [(k, v)])
  | [], gs, r => by
    unfold RepK at r
    subst r
    show RepK K F H [(dK k, d)] [(k, v)]
    unfold RepK
    exact ⟨k, v, [], rfl, rfl, rv, by unfold RepK; rfl⟩
  | (q, e) :: kvs, gs, r => by
    unfold RepK at r
    obtain ⟨k', w, t, rfl, rfl, x, y⟩ := r
    show RepK K F H ((dK k', e) :: (kvs ++ [(dK k, d)])) ((k', w) :: (t ++ [(k, v)]))
    unfold RepK
    exact ⟨k', w, _, rfl, rfl, x, RepK.snoc k rv y⟩
theorem RepK.put {d : D} {v : V} (k : Key) (rv : Rep K F H d v) {kvs : List (D × D)} {gs : List (Key × V)} (r : RepK K F H kvs gs) : RepK K F H (putD kvs (dK k) d) (putK gs k v) := by
  unfold putD putK
  rw [r.anyK k]
  split
  · exact r.repl k rv
  · exact r.snoc k rv
theorem dctO {kvs : List (D × D)} {v : V} {q : List Addr} : RepO K F H (.o .f) (.dct kvs) v q ↔ ∃ a gs, v = .ref a ∧ H a = some (.dK gs) ∧ q = [a] ∧ RepK K F H kvs gs := by
  constructor
  · intro r
    unfold RepO at r
    obtain ⟨a, gs, fr, e, h, ef, nf, ek, rs⟩ := r
    obtain ⟨e2, _⟩ := RepOs.unfrz rs
    subst e2
    exact ⟨a, gs, e, h, ef, RepK.of_own ek rs⟩
  · rintro ⟨a, gs, e, h, ef, r⟩
    obtain ⟨ek, rs⟩ := r.to_own
    unfold RepO
    exact ⟨a, gs, [], e, h, ef, by simp, ek, rs⟩
theorem lstO {ds : List D} {v : V} {q : List Addr} : RepO K F H (.o .f) (.lst ds) v q ↔ ∃ a vs, v = .ref a ∧ H a = some (.lst vs) ∧ q = [a] ∧ RepL K F H ds vs := by
  constructor
  · intro r
    unfold RepO at r
    obtain ⟨a, gs, fr, e, h, ef, nf, rs⟩ := r
    obtain ⟨e2, rl⟩ := RepOs.unfrz rs
    subst e2
    exact ⟨a, gs, e, h, ef, rl⟩
  · rintro ⟨a, gs, e, h, ef, r⟩
    unfold RepO
    exact ⟨a, gs, [], e, h, ef, by simp, RepOs.frz r⟩
theorem Rep.upd {d : D} {v : V} {A : Addr} {o : HO} (r : Rep K F H d v) (hF : ¬ F A) : Rep K F (upd H A o) d v :=
  Rep.mono (fun _ h => h) (fun b u f e => by rw [upd_ne (fun z => by subst z; exact hF f)]; exact e) _ _ r
theorem RepK.upd {d : List (D × D)} {v : List (Key × V)} {A : Addr} {o : HO} (r : RepK K F H d v) (hF : ¬ F A) : RepK K F (upd H A o) d v :=
  RepK.mono (fun _ h => h) (fun b u f e => by rw [upd_ne (fun z => by subst z; exact hF f)]; exact e) _ _ r
theorem RepL.upd {d : List D} {v : List V} {A : Addr} {o : HO} (r : RepL K F H d v) (hF : ¬ F A) : RepL K F (upd H A o) d v :=
  RepL.mono (fun _ h => h) (fun b u f e => by rw [upd_ne (fun z => by subst z; exact hF f)]; exact e) _ _ r
end
end FL

namespace FL
open PySem PySem.Spec PyProof.Rows L2
section
variable {K : PySem.W.Frag} {W : WX} {G : Gh} {st st1 : List TI} {ρ : List Sl} {σ : L2.St} {H : Hp} {F : Addr → Prop} {fp : Bool → Nat → List Addr}
/-- an object that the j-th item owns is written -/
theorem EIF.writeAt {j : Nat} {t' : TI} {A : Addr} {o : HO} (I : EIF K G st ρ σ H F fp) (hj : j < st.length) (hA : A ∈ fp false j) (hn : TIOk K σ F (upd H A o) t' (fp false j)) : EIF K G (st.set j t') ρ σ (upd H A o) F fp := by
  have hF : ¬ F A := (I.nf false j A hA).1
  refine ⟨fun i => (I.sl i).upd hF fun h => ?_, fun i => ?_, I.nf, I.dj, fun a u e n => ?_, I.f0, I.fo, lv_upd I.lv, I.len⟩
  · have := (I.dj true i false j A h hA).1
    cases this
  · by_cases hi : i = j
    · subst hi
      rw [List.getD_eq_getElem?_getD, List.getElem?_set_self hj]
      exact hn
    · rw [List.getD_eq_getElem?_getD, List.getElem?_set_ne (Ne.symm hi), ← List.getD_eq_getElem?_getD]
      exact (I.ti i).upd hF fun h => hi (I.dj false i false j A h hA).2
  · have ne : a ≠ A := fun z => by
      subst z
      rcases (I.nf false j a hA).2 with z | z
      · exact n z
      · rw [e] at z; cases z
    rw [upd_ne ne]
    exact I.keep a u e n
theorem EIF.nF {j : Nat} {A : Addr} (I : EIF K G st ρ σ H F fp) (hA : A ∈ fp false j) : ¬ F A := (I.nf false j A hA).1
/-- a dict of one's own, j-th: an entry is put -/
theorem EIF.putAt {j : Nat} {kvs : List (D × D)} {a : Addr} {k : Key} {d : D} {y : V} (I : EIF K G st ρ σ H F fp) (hj : st[j]? = some (.t (.o .f) (.dct kvs) (.ref a))) (ry : Rep K F H d y) :
    ∃ gs, H a = some (.dK gs) ∧ gs.length = kvs.length ∧ EIF K G (st.set j (.t (.o .f) (.dct (putD kvs (dK k) d)) (.ref a))) ρ σ (upd H a (.dK (putK gs k y))) F fp := by
  have t := I.ti j
  rw [List.getD_eq_getElem?_getD, hj] at t
  have t : RepO K F H (.o .f) (.dct kvs) (.ref a) (fp false j) := t
  obtain ⟨a', gs, e, h, ef, r⟩ := dctO.mp t
  cases e
  have hA : a ∈ fp false j := by rw [ef]; exact List.mem_cons_self
  have hF := I.nF hA
  refine ⟨gs, h, r.len.symm, I.writeAt (List.getElem?_eq_some_iff.mp hj).1 hA ?_⟩
  show RepO K F _ (.o .f) _ _ _
  exact dctO.mpr ⟨a, _, rfl, upd_same, ef, (r.upd hF).put k (ry.upd hF)⟩
end
/-! ### {k: v, ..} -/
def mergeD (kvs more : List (D × D)) : List (D × D) := more.foldl (fun acc kv => putD acc kv.1 kv.2) kvs
theorem RepK.merge {K : PySem.W.Frag} {F : Addr → Prop} {H : Hp} : ∀ {more : List (D × D)} {ms : List (Key × V)} {kvs : List (D × D)} {gs : List (Key × V)}, RepK K F H more ms → RepK K F H kvs gs → RepK K F H (mergeD kvs more) (mergeK gs ms)
  | [], ms, kvs, gs, r, r0 => by
    unfold RepK at r
    subst r
    exact r0
  | (k, d) :: more, ms, kvs, gs, r, r0 => by
    unfold RepK at r
    obtain ⟨k', v, t, rfl, rfl, x, y⟩ := r
    have z := RepK.merge y (r0.put k' x)
    exact z
def prsE : List ((List Sl → EO) × (List Sl → EO)) → List (D × D) → List Sl → EO
  | [], acc, ρ => .ok false .t (.o .f) (.dct (mergeD [] acc)) ρ
  | (tk, tv) :: r, acc, ρ => (tk ρ).bind fun _ k m d ρ1 => match k, m, keyOf d with
    | .t, .f, some _ => (tv ρ1).bind fun _ k2 m2 d2 ρ2 => (match k2, m2 with
      | .t, .f => prsE r (acc ++ [(d, d2)]) ρ2
      | _, _ => .no)
    | _, _, _ => .no
def FPs (X : Cx) (W : WX) (pos : Pos) (ks : List (Option Expr)) (vs : List Expr) (Ts : List ((List Sl → EO) × (List Sl → EO))) : Prop := PPs X pos ks vs (Ts.map fun t => (tE X.K W t.1, tE X.K W t.2))
section
variable {K : PySem.W.Frag} {W : WX} {G : Gh} {st : List TI} {σ : L2.St} {Q : VK} {p : Addr}
theorem keys_stab {acc : List (D × D)} {gs : List (Key × V)} : Stab (fun F H => RepK K F H acc gs) := fun F F' H H' m s p => RepK.mono m s _ _ p
theorem Over.cons1 {st : List TI} (t : TI) : Over K (t :: st) st := fun G ρ σ H P h => by
  rw [dims_id] at h ⊢
  exact h.drop2
theorem prs_run : ∀ (Ts : List ((List Sl → EO) × (List Sl → EO))) (acc : List (D × D)) (gs : List (Key × V)) (ρ : List Sl) (H : Hp) (R : List (V × V) → Hp → Prop), acc.length + Ts.length ≤ 15 → EI K G (.w (fun F H => RepK K F H acc gs) :: .t (.o .f) (.dct []) (.ref p) :: st) ρ σ H →
    Aft K W G st σ Q (prsE Ts acc ρ) → (∀ (more : List (Key × V)) H2, H2 p = some (.dK []) → (gs ++ more).length ≤ 15 → Q (.ref p) (upd H2 p (.dK (mergeK [] (gs ++ more)))) → R (more.map fun kv => (kV kv.1, kv.2)) H2) → tPairs (Ts.map fun t => (tE K W t.1, tE K W t.2)) σ H R
  | [], acc, gs, ρ, H, R, hl, I, h, k => by
    obtain ⟨F, fp, I⟩ := I
    have r : RepK K F H acc gs := (I.ti 0).2.2
    have t : RepO K F H (.o .f) (.dct []) (.ref p) (fp false 1) := I.ti 1
    obtain ⟨a, g0, e, hp, ef, r0⟩ := dctO.mp t
    cases e
    unfold RepK at r0
    subst r0
    have hA : p ∈ fp false 1 := by rw [ef]; exact List.mem_cons_self
    have hF := I.nF hA
    have J := I.writeAt (j := 1) (t' := .t (.o .f) (.dct (mergeD [] acc)) (.ref p)) (A := p) (o := .dK (mergeK [] gs)) (by simp) hA (by
      show RepO K F _ (.o .f) _ _ _
      exact dctO.mpr ⟨p, _, rfl, upd_same, ef, RepK.merge (r.upd hF) (by unfold RepK; rfl)⟩)
    have h := h (.ref p) _ ⟨F, _, by rw [dims_id]; exact J.pop⟩
    have := k [] H hp (by rw [List.append_nil, ← r.len]; simpa using hl) (by rw [List.append_nil]; exact h)
    exact this
  | (tk, tv) :: Ts, acc, gs, ρ, H, R, hl, I, h, k => by
    have o1 : Over K (.w (fun F H => RepK K F H acc gs) :: .t (.o .f) (.dct []) (.ref p) :: st) st := fun G ρ σ H P h => by
      rw [dims_id] at h ⊢
      exact h.drop2.drop2
    refine ⟨G, _, ρ, I, Aft.bind h o1 fun p1 k1 m1 d1 ρ1 ex1 h v H1 I1 => ?_⟩
    rw [dims_id] at I1
    cases ek : keyOf d1 with
    | none => cases k1 <;> cases m1 <;> simp only [ek] at h <;> exact h.elim
    | some key =>
      cases k1 with
      | s k => exact h.elim
      | w => exact h.elim
      | t =>
        cases m1 with
        | o c => exact h.elim
        | r ms => exact h.elim
        | f =>
          simp only [ek] at h
          have o2 : Over K (mkI .t .f d1 v :: .w (fun F H => RepK K F H acc gs) :: .t (.o .f) (.dct []) (.ref p) :: st) st := fun G ρ σ H P h => by
            rw [dims_id] at h ⊢
            exact h.drop2.drop2.drop2
          refine ⟨G, _, ρ1, I1, Aft.bind h o2 fun p2 k2 m2 d2 ρ2 ex2 h u H2 I2 => ?_⟩
          rw [dims_id] at I2
          cases k2 with
          | s k => exact h.elim
          | w => exact h.elim
          | t =>
            cases m2 with
            | o c => exact h.elim
            | r ms => exact h.elim
            | f =>
              obtain ⟨F, fp, I2⟩ := I2
              have I2 : EIF K G (.t .f d2 u :: .t .f d1 v :: .w (fun F H => RepK K F H acc gs) :: .t (.o .f) (.dct []) (.ref p) :: st) ρ2 σ H2 F fp := I2
              have ru := rep_f (I2.ti 0)
              have rv := rep_f (I2.ti 1)
              have ra : RepK K F H2 acc gs := (I2.ti 2).2.2
              have ed : d1 = dK key := keyOf_some ek
              subst ed
              have ev : v = kV key := by cases key <;> (unfold dK Rep at rv; exact rv)
              subst ev
              have I3 : EI K G (.w (fun F H => RepK K F H (acc ++ [(dK key, d2)]) (gs ++ [(key, u)])) :: .t (.o .f) (.dct []) (.ref p) :: st) ρ2 σ H2 :=
                ⟨F, _, I2.pop.pop.pop.push (t := .w _) (q := []) ⟨rfl, keys_stab, ra.snoc key ru⟩ (fun a m => nomatch m) fun a m => nomatch m⟩
              refine prs_run Ts _ _ ρ2 H2 _ (by simp at hl ⊢; omega) I3 h fun more H4 e4 l4 q4 => ?_
              have := k ((key, u) :: more) H4 e4 (by simpa using l4) (by simpa using q4)
              simpa using this
end
section
variable {X : Cx} {W : WX} {pos : Pos} {k v : Expr} {keys ks : List (Option Expr)} {values vs : List Expr} {Tk Tv : List Sl → EO} {Ts : List ((List Sl → EO) × (List Sl → EO))}
theorem fps_nil : FPs X W pos [] [] [] := pps_nil
theorem fps_cons (hk : FE X W k Tk) (hv : FE X W v Tv) (hr : FPs X W pos ks vs Ts) : FPs X W pos (some k :: ks) (v :: vs) ((Tk, Tv) :: Ts) := pps_cons hk hv hr
theorem fe_disp (h : FPs X W pos keys values Ts) (h15' : Ts.length ≤ 15 := by exact Nat.le_of_ble_eq_true rfl) (hall : keys.all (·.isSome) = true := by rfl) (hl : keys.length = values.length := by rfl) (h0 : keys ≠ [] := by simp) (h15 : keys.length ≤ 15 := by decide) : FE X W (.Dict keys values pos) (prsE Ts []) := by
  refine PE.imp (pe_disp h hall hl h0 h15) fun σ H Q ⟨G, st, ρ, I, h⟩ p hp => ?_
  obtain ⟨F, fp, I⟩ := I
  have I1 := I.pushNew (m := .o .f) (d := .dct []) (v := .ref p) (q := [p]) (Ext.put (o := .dK []) I.lv hp) (dctO.mpr ⟨p, [], rfl, upd_same, rfl, by unfold RepK; rfl⟩) (fun a m => by
    rw [List.mem_singleton.mp m]
    refine ⟨fun z => ?_, hp⟩
    obtain ⟨o, ho⟩ := I.lv p z
    rw [hp] at ho
    cases ho)
  obtain ⟨F1, fp1, I1⟩ := I1
  have I2 : EI X.K G (.w (fun F H => RepK X.K F H [] []) :: .t (.o .f) (.dct []) (.ref p) :: st) ρ σ (upd H p (.dK [])) :=
    ⟨F1, _, I1.push (t := .w _) (q := []) ⟨rfl, keys_stab, by unfold RepK; rfl⟩ (fun a m => nomatch m) fun a m => nomatch m⟩
  refine prs_run Ts [] [] ρ _ _ (by simpa using h15') I2 h fun more H2 e l q => ⟨e, more, rfl, by simpa using l, ?_⟩
  simpa using q
/-- {} -/
def dnewE : List Sl → EO := fun ρ => .ok true .t (.o .f) (.dct []) ρ
theorem fe_dnew : FE X W (.Dict [] [] pos) dnewE := by
  refine PE.imp pe_dnewK fun σ H Q ⟨G, st, ρ, I, h⟩ p hp => ?_
  obtain ⟨F, fp, I⟩ := I
  refine h (.ref p) _ (I.pushNew (m := .o .f) (d := .dct []) (v := .ref p) (q := [p]) (Ext.put (o := .dK []) I.lv hp) (dctO.mpr ⟨p, [], rfl, upd_same, rfl, by unfold RepK; rfl⟩) (fun a m => by
    rw [List.mem_singleton.mp m]
    refine ⟨fun z => ?_, hp⟩
    obtain ⟨o, ho⟩ := I.lv p z
    rw [hp] at ho
    cases ho))
end
/-! ### {k: v for ..} -/
def dcL (vs : List Nat) (g : D → List Sl → Option (List Sl)) (tt : List Sl → BO) (tk tv : List Sl → EO) : List D → List (D × D) → List Sl → Option (List (D × D) × List Sl)
  | [], acc, ρ => some (acc, ρ)
  | d :: ds, acc, ρ => match g d ρ with
    | none => none
    | some ρ1 => match tt ρ1 with
      | .ok _ true ρ2 => (match tk ρ2 with
        | .ok _ .t .f kd ρ3 => (match keyOf kd, tv ρ3 with
          | some _, .ok _ .t .f e ρ4 => if acc.length < 16777216 then dcL vs g tt tk tv ds (putD acc kd e) (wipeSl ρ4 vs) else none
          | _, _ => none)
        | _ => none)
      | .ok _ false ρ2 => dcL vs g tt tk tv ds acc (wipeSl ρ2 vs)
      | _ => none
def dcE (vs : List Nat) (it : List Sl → IO) (g : D → List Sl → Option (List Sl)) (tt : List Sl → BO) (tk tv : List Sl → EO) : List Sl → EO := fun ρ => match it ρ with
  | .ok _ ds ρ1 => (match dcL vs g tt tk tv ds [] (wipeSl ρ1 vs) with
    | some (acc, ρ2) => .ok false .t (.o .f) (.dct acc) (wipeSl ρ2 vs)
    | none => .no)
  | .ex C fs ρ1 => .ex C fs ρ1
  | .no => .no
section
variable {X : Cx} {W : WX} {kx vx tg iter : Expr} {ifs : List Expr} {scope : Scope} {own : List (Str × Nat)} {S : List Nat} {it : List Sl → IO} {g : D → List Sl → Option (List Sl)} {tt : List Sl → BO} {tk tv : List Sl → EO} {pos : Pos}
theorem fe_dc (hc : X.calm = true) (hN : X.N.Nodup) (hi : FI X W tg iter it) (ok : BlkOk X.N X.env.scope scope own)
    (hg : ∀ (s : Shared) (H : Hp) (C : Addr) (cl : List (Str × Addr)) (fp : List Addr), FG (X.blk s H scope (compEnvC scope cl C X.env) fp) S tg g)
    (ht : ∀ (s : Shared) (H : Hp) (C : Addr) (cl : List (Str × Addr)) (fp : List Addr), FTs (X.blk s H scope (compEnvC scope cl C X.env) fp) W0 ifs tt)
    (hk : ∀ (s : Shared) (H : Hp) (C : Addr) (cl : List (Str × Addr)) (fp : List Addr), FE (X.blk s H scope (compEnvC scope cl C X.env) fp) W0 kx tk)
    (he : ∀ (s : Shared) (H : Hp) (C : Addr) (cl : List (Str × Addr)) (fp : List Addr), FE (X.blk s H scope (compEnvC scope cl C X.env) fp) W0 vx tv)
    (hS : ∀ i ∈ S, i ∈ own.map (·.2) := by decide) (hs : ∀ x, foldedSetIterable iter X.env x = pure x := by intro _; rfl) :
    FE X W (.DictComp kx vx [⟨tg, iter, ifs, 0⟩] scope pos) (dcE (own.map (·.2)) it g tt tk tv) := by
  refine PE.imp (pe_dc (g := tG X.K S g) (tt := tT X.K W0 tt) (tk := tE X.K W0 tk) (tv := tE X.K W0 tv) hc hN hi ok hg ht hk he hs) fun σ H Q ⟨G, st, ρ, I, h⟩ => ⟨G, st, ρ, I, ?_⟩
  generalize own.map (·.2) = vs at h hS ⊢
  unfold dcE at h
  cases ei : it ρ with
  | no => rw [ei] at h; exact h.elim
  | ex C fs ρ1 => rw [ei] at h; exact h
  | ok p ds ρ1 =>
    simp only [ei] at h
    intro J t H1 I1 Y D hD
    cases el : dcL vs g tt tk tv ds [] (wipeSl ρ1 vs) with
    | none => rw [el] at h; exact h.elim
    | some r =>
    obtain ⟨accF, ρF⟩ := r
    simp only [el] at h
    have hd : t.dead = t := Y.keeps
    rw [dims_id] at I1
    have facts : SFacts σ st := by
      obtain ⟨F, fp, I1'⟩ := I1
      exact I1'.pop.facts
    have dd : ∀ {s : List TI} {acc : List (FL.D × FL.D)}, dead (t :: .t (.o .f) (.dct acc) (.ref D) :: dead s) = t :: .t (.o .f) (.dct acc) (.ref D) :: dead s := fun {s acc} => by
      show t.dead :: _ :: dead (dead s) = _
      rw [hd, deads_dead]
      rfl
    have start : EI X.K G (t :: .t (.o .f) (.dct []) (.ref D) :: dead st) (wipeSl ρ1 vs) (wipe σ vs) (upd H1 D (.dK [])) := by
      have a := EI.underNew (A := D) (o := .dK []) (m := .o .f) (d := .dct []) (v := .ref D) I1 hD fun F nF => dctO.mpr ⟨D, [], rfl, upd_same, rfl, by unfold RepK; rfl⟩
      have b := a.dead
      have e : dead (t :: .t (.o .f) (.dct []) (.ref D) :: st) = dead (t :: .t (.o .f) (.dct []) (.ref D) :: dead st) := by
        show t.dead :: _ :: dead st = t.dead :: _ :: dead (dead st)
        rw [deads_dead]
      rw [e] at b
      have c := EI.swap (σ' := wipe σ vs) (vs := vs) b (wipe_length σ vs) fun i hi => wipe_get hi
      rw [dd] at c
      exact c
    refine ⟨fun i m H => m = ds.length - i ∧ i ≤ ds.length ∧ ∃ ρ acc, EI X.K G (t :: .t (.o .f) (.dct acc) (.ref D) :: dead st) ρ (wipe σ vs) H ∧ dcL vs g tt tk tv (ds.drop i) acc ρ = some (accF, ρF), ⟨_, rfl, Nat.zero_le _, _, [], start, by rw [List.drop_zero]; exact el⟩, ?_⟩
    rintro i m H2 ⟨rfl, hile, ρ2, acc, I2, h2⟩
    by_cases hlt : i < ds.length
    · rw [List.drop_eq_getElem_cons hlt] at h2
      simp only [dcL] at h2
      obtain ⟨hgo, hy⟩ := Y.go G _ ρ2 _ H2 i ds[i] I2 (List.getElem?_eq_getElem hlt)
      refine .inr ⟨hgo, fun H' => ∃ ρ acc, EI X.K G (t :: .t (.o .f) (.dct acc) (.ref D) :: dead st) ρ (wipe σ vs) H' ∧ dcL vs g tt tk tv (ds.drop (i + 1)) acc ρ = some (accF, ρF), fun H' ⟨ρ', acc', I', h'⟩ => ⟨_, by omega, rfl, hlt, ρ', acc', I', h'⟩, fun x H' y => ?_⟩
      have I4 := hy x H' y
      cases eg : g ds[i] ρ2 with
      | none => rw [eg] at h2; cases h2
      | some ρ3 =>
        simp only [eg] at h2
        refine ⟨G, _, ρ2, ds[i], I4, ρ3, eg, fun σ5 o5 I5 => ⟨wipe_off o5 hS, ?_⟩⟩
        rw [dd] at I5
        refine ⟨G, _, ρ3, I5, ?_⟩
        have back : ∀ {acc' : List (FL.D × FL.D)} {ρ' : List Sl} {H6 : Hp}, EI X.K G (t :: .t (.o .f) (.dct acc') (.ref D) :: dead st) ρ' σ5 H6 → EI X.K G (t :: .t (.o .f) (.dct acc') (.ref D) :: dead st) (wipeSl ρ' vs) (wipe σ vs) H6 := fun {acc' ρ' H6} I6 => by
          have w := wipe_off o5 hS
          rw [← w]
          rw [← dd] at I6 ⊢
          exact I6.swap (wipe_length σ5 vs) fun i hi => wipe_get hi
        cases et : tt ρ3 with
        | no => rw [et] at h2; cases h2
        | ex C fs ρ4 => rw [et] at h2; cases h2
        | ok p4 b4 ρ4 =>
          simp only [et] at h2
          cases b4 with
          | false =>
            intro H6 I6
            rw [dims_id] at I6
            rw [if_neg Bool.false_ne_true]
            exact ⟨_, acc, back I6, h2⟩
          | true =>
            dsimp only at h2
            intro H6 I6
            rw [dims_id] at I6
            rw [if_pos rfl]
            refine ⟨G, _, ρ4, I6, ?_⟩
            cases ek : tk ρ4 with
            | no => rw [ek] at h2; cases h2
            | ex C fs ρ5 => rw [ek] at h2; cases h2
            | ok p5 k5 m5 d5 ρ5 =>
              simp only [ek] at h2
              cases k5 with
              | s k => cases h2
              | w => cases h2
              | t =>
                cases m5 with
                | o c => cases h2
                | r ms => cases h2
                | f =>
                  dsimp only at h2
                  intro v H7 I7
                  rw [dims_id] at I7
                  refine ⟨G, _, ρ5, I7, ?_⟩
                  cases eK : keyOf d5 with
                  | none => rw [eK] at h2; cases h2
                  | some key =>
                    cases ee : tv ρ5 with
                    | no => rw [eK, ee] at h2; cases h2
                    | ex C fs ρ6 => rw [eK, ee] at h2; cases h2
                    | ok p6 k6 m6 d6 ρ6 =>
                      rw [eK, ee] at h2
                      cases k6 with
                      | s k => cases h2
                      | w => cases h2
                      | t =>
                        cases m6 with
                        | o c => cases h2
                        | r ms => cases h2
                        | f =>
                          dsimp only at h2
                          split at h2
                          · rename_i hlen
                            intro u H8 I8
                            rw [dims_id] at I8
                            obtain ⟨F8, fp8, I8⟩ := I8
                            have I8 : EIF X.K G (.t .f d6 u :: .t .f d5 v :: t :: .t (.o .f) (.dct acc) (.ref D) :: dead st) ρ6 σ5 H8 F8 fp8 := I8
                            have ru := rep_f (I8.ti 0)
                            have rv := rep_f (I8.ti 1)
                            have ed : d5 = dK key := keyOf_some eK
                            subst ed
                            have ev : v = kV key := by cases key <;> (unfold dK Rep at rv; exact rv)
                            subst ev
                            obtain ⟨us, hus, hul, I9⟩ := I8.putAt (j := 3) (k := key) (d := d6) (y := u) rfl ru
                            have I9 : EIF X.K G (.t .f d6 u :: .t .f (dK key) (kV key) :: t :: .t (.o .f) (.dct (putD acc (dK key) d6)) (.ref D) :: dead st) ρ6 σ5 _ F8 fp8 := I9
                            exact ⟨us, key, rfl, hus, by rw [hul, sizeLine_eq]; exact hlen, _, _, back ⟨_, _, I9.pop.pop⟩, h2⟩
                          · cases h2
    · have e : i = ds.length := by omega
      subst e
      rw [List.drop_length] at h2
      simp only [dcL, Option.some.injEq, Prod.mk.injEq] at h2
      obtain ⟨rfl, rfl⟩ := h2
      refine .inl ⟨Y.stop G _ ρ2 _ H2 I2, h (.ref D) H2 ?_⟩
      have a := I2.pop
      have e1 : (.t (.o .f) (.dct acc) (.ref D) :: dead st : List TI) = dead (.t (.o .f) (.dct acc) (.ref D) :: st) := rfl
      rw [e1] at a
      have b := a.swap (σ' := σ) (vs := vs) (wipe_length σ vs).symm fun i hi => (wipe_get hi).symm
      obtain ⟨F9, fp9, b⟩ := b
      rw [dims_id]
      refine ⟨F9, fp9, b.wake (fun j k v e => ?_)⟩
      cases j with
      | zero => cases e
      | succ j => exact facts j k v e
end
end FL

namespace FL
open PySem PySem.Spec PyProof.Rows L2
/-! ### letting go, dicts too: they are locked -/
section
variable {K : PySem.W.Frag} {W : WX} {G : Gh} {st st1 : List TI} {ρ : List Sl} {σ : L2.St} {H : Hp} {F : Addr → Prop} {fp : Bool → Nat → List Addr}
theorem EIF.addF {a : Addr} {o : HO} (I : EIF K G st ρ σ H F fp) (ha : H a = some o) (hn : ∀ b i, a ∉ fp b i) (h0 : G.fp0 a ∨ G.H0 a = none) : EIF K G st ρ σ H (Plus F [a]) fp := by
  refine ⟨fun i => (I.sl i).plus, fun j => (I.ti j).plus, fun b i c h => ⟨fun z => ?_, (I.nf b i c h).2⟩, I.dj, I.keep, fun c h => .inl (I.f0 c h), fun c h => ?_, fun c h => ?_, I.len⟩
  · rcases z with z | z
    · exact (I.nf b i c h).1 z
    · rw [List.mem_singleton.mp z] at h
      exact hn b i h
  · rcases h with h | h
    · exact I.fo c h
    · rw [List.mem_singleton.mp h]
      exact .inr h0.symm
  · rcases h with h | h
    · exact I.lv c h
    · rw [List.mem_singleton.mp h]
      exact ⟨o, ha⟩
theorem EIF.lockTop {kvs : List (D × D)} {v : V} (I : EIF K G (.t (.o .f) (.dct kvs) v :: st) ρ σ H F fp) : ∃ a gs, v = .ref a ∧ H a = some (.dK gs) ∧ ∀ od, EI K G (.t .f (.dct kvs) v :: st) ρ σ (upd H a (.frz od (.dK gs))) := by
  obtain ⟨a, gs, rfl, h, ef, r⟩ := dctO.mp (show RepO K F H (.o .f) (.dct kvs) v (fp false 0) from I.ti 0)
  refine ⟨a, gs, rfl, h, fun od => ?_⟩
  have hA : a ∈ fp false 0 := by rw [ef]; exact List.mem_cons_self
  have hF := I.nF hA
  have J := I.writeTop (t' := .x) (q := []) (o := .frz od (.dK gs)) hA (by exact rfl) (fun a m => nomatch m)
  have J2 := J.pop.addF (a := a) upd_same (fun b i m => ?_) (I.nf false 0 a hA).2
  · exact J2.pushRep (d := .dct kvs) (v := .ref a) (by
      unfold Rep
      exact ⟨a, gs, od, rfl, .inr (by simp), upd_same, RepK.mono (fun _ h => .inl h) (fun b u f e => by rw [upd_ne (fun z => by subst z; exact hF f)]; exact e) _ _ r⟩)
  · cases b with
    | true =>
      have m : a ∈ fp true i := m
      have := (I.dj true i false 0 a m hA).1
      cases this
    | false =>
      have m : a ∈ fp false (i + 1) := m
      have := (I.dj false (i + 1) false 0 a m hA).2
      omega
/-- a slot that was nothing holds a frozen value -/
theorem EIF.fillSl {i : Nat} {p : Option Nat} {d : D} {v : V} (I : EIF K G st ρ σ H F fp) (hi : ρ[i]? = some .no) (hv : σ[i]? = some (some v)) (r : Rep K F H d v) (hp : ∀ j, p = some j → G.args[j]? = some v) : EIF K G st (ρ.set i (.va p .f d)) σ H F fp := by
  have hlt := (List.getElem?_eq_some_iff.mp hi).1
  refine ⟨fun j => ?_, I.ti, I.nf, I.dj, I.keep, I.f0, I.fo, I.lv, by rw [List.length_set]; exact I.len⟩
  by_cases hj : j = i
  · subst hj
    have s := I.sl j
    rw [List.getD_eq_getElem?_getD, hi] at s
    have e : fp true j = [] := s
    rw [List.getD_eq_getElem?_getD, List.getElem?_set_self hlt, e]
    refine ⟨v, hv, ?_, hp⟩
    unfold RepO
    exact ⟨rfl, r⟩
  · rw [List.getD_eq_getElem?_getD, List.getElem?_set_ne (Ne.symm hj), ← List.getD_eq_getElem?_getD]
    exact I.sl j
theorem EIF.lockSl {i : Nat} {p : Option Nat} {kvs : List (D × D)} (I : EIF K G st ρ σ H F fp) (hi : ρ[i]? = some (.va p (.o .f) (.dct kvs))) : ∃ a gs, σ[i]? = some (some (.ref a)) ∧ H a = some (.dK gs) ∧ ∀ od, EI K G (.t .f (.dct kvs) (.ref a) :: st) (ρ.set i (.va p .f (.dct kvs))) σ (upd H a (.frz od (.dK gs))) := by
  have s := I.sl i
  rw [List.getD_eq_getElem?_getD, hi] at s
  obtain ⟨v, ev, r0, hp⟩ := s
  obtain ⟨a, gs, rfl, h, ef, r⟩ := dctO.mp r0
  refine ⟨a, gs, ev, h, fun od => ?_⟩
  have hlt := (List.getElem?_eq_some_iff.mp hi).1
  have hA : a ∈ fp true i := by rw [ef]; exact List.mem_cons_self
  have hF : ¬ F a := (I.nf true i a hA).1
  have J := I.writeSl (i := i) (s := .no) (q := []) (o := .frz od (.dK gs)) hlt hA (by exact rfl) (fun a m => nomatch m)
  have J2 := J.addF (a := a) upd_same (fun b j m => ?_) (I.nf true i a hA).2
  · have rr : Rep K (Plus F [a]) (upd H a (.frz od (.dK gs))) (.dct kvs) (.ref a) := by
      unfold Rep
      exact ⟨a, gs, od, rfl, .inr (by simp), upd_same, RepK.mono (fun _ h => .inl h) (fun b u f e => by rw [upd_ne (fun z => by subst z; exact hF f)]; exact e) _ _ r⟩
    have J3 := J2.fillSl (i := i) (p := p) (d := .dct kvs) (v := .ref a) (by rw [List.getElem?_set_self hlt]) ev rr hp
    rw [List.set_set] at J3
    exact J3.pushRep rr
  · unfold setF at m
    split at m
    · cases m
    · rename_i c
      exact c (I.dj b j true i a m hA)
end
section
variable {X : Cx} {W : WX} {e : Expr} {T : List Sl → EO}
theorem pe_lockTop {t : TE} (h : PE X e t) : PE X e (fun σ H Q => t σ H fun v H1 => ∃ a gs, v = .ref a ∧ H1 a = some (.dK gs) ∧ ∀ od, Q v (upd H1 a (.frz od (.dK gs)))) := by
  refine ⟨fun pins s σ H Q I hw => ?_⟩
  refine thn (h.run pins s σ H _ I hw) fun u s1 ⟨v, H1, I1, r, a, gs, ev, hd, q⟩ => ?_
  obtain ⟨od, I2⟩ := I1.lock hd True.intro
  exact ⟨v, _, I2, r, q od⟩
def frzD (T : List Sl → EO) : List Sl → EO := fun ρ => match T ρ with
  | .ok p .t (.o .f) (.dct kvs) ρ1 => .ok p .t .f (.dct kvs) ρ1
  | x => frzK x
theorem fe_frzD (h : FE X W e T) : FE X W e (frzD T) := by
  refine ⟨fun pins s σ H Q I q => ?_⟩
  obtain ⟨G, st, ρ, J, q⟩ := q
  by_cases hc : ∃ p kvs ρ1, T ρ = .ok p .t (.o .f) (.dct kvs) ρ1
  · obtain ⟨p, kvs, ρ1, et⟩ := hc
    refine (pe_lockTop h).run pins s σ H Q I ⟨G, st, ρ, J, ?_⟩
    unfold frzD at q
    rw [et] at q ⊢
    intro v H1 I1
    obtain ⟨F, fp, I2⟩ := I1
    obtain ⟨a, gs, ev, hd, k⟩ := EIF.lockTop (v := v) I2
    exact ⟨a, gs, ev, hd, fun od => q v _ (k od)⟩
  · refine (fe_frz h).run pins s σ H Q I ⟨G, st, ρ, J, ?_⟩
    have : frzD T ρ = frz T ρ := by
      unfold frzD frz
      split
      · rename_i p kvs ρ1 et
        exact absurd ⟨p, kvs, ρ1, et⟩ hc
      · rfl
    rw [← this]
    exact q
/-- a slot's thing is let go, then taken -/
def nameFD (i : Nat) : List Sl → EO := fun ρ => match ρ[i]? with
  | some (.va p (.o .f) (.dct kvs)) => .ok true .t .f (.dct kvs) (ρ.set i (.va p .f (.dct kvs)))
  | _ => nameF i ρ
theorem fe_nameFD {i : Nat} (h : PE X e (tVar i)) : FE X W e (nameFD i) := by
  refine ⟨fun pins s σ H Q I q => ?_⟩
  obtain ⟨G, st, ρ, J, q⟩ := q
  by_cases hc : ∃ p kvs, ρ[i]? = some (.va p (.o .f) (.dct kvs))
  · obtain ⟨p, kvs, et⟩ := hc
    unfold nameFD at q
    rw [et] at q
    obtain ⟨F, fp, J⟩ := J
    obtain ⟨a, gs, ev, hd, k⟩ := J.lockSl et
    refine (pe_lockTop h).run pins s σ H Q I ⟨.ref a, ev, a, gs, rfl, hd, fun od => q _ _ ?_⟩
    rw [dims_id]
    exact k od
  · refine (fe_nameF (W := W) h).run pins s σ H Q I ⟨G, st, ρ, J, ?_⟩
    have : nameFD i ρ = nameF i ρ := by
      unfold nameFD
      split
      · rename_i p kvs et
        exact absurd ⟨p, kvs, et⟩ hc
      · rfl
    rw [← this]
    exact q
end
/-! ### attributes -/
theorem RepF.lookup {K : PySem.W.Frag} {F : Addr → Prop} {H : Hp} {f : Str} : ∀ {fs : List (Str × D)} {gs : List (Str × V)} {d : D}, RepF K F H fs gs → fs.lookup f = some d → ∃ v, gs.lookup f = some v ∧ Rep K F H d v
  | [], gs, d, r, e => by simp at e
  | (k, x) :: fs, gs, d, r, e => by
    unfold RepF at r
    obtain ⟨v, t, rfl, rx, rt⟩ := r
    rw [List.lookup_cons] at e ⊢
    cases h : f == k with
    | true =>
      rw [h] at e
      cases e
      exact ⟨v, rfl, rx⟩
    | false =>
      rw [h] at e
      exact RepF.lookup rt e
theorem RepF.lookupN {K : PySem.W.Frag} {F : Addr → Prop} {H : Hp} {f : Str} : ∀ {fs : List (Str × D)} {gs : List (Str × V)}, RepF K F H fs gs → fs.lookup f = none → gs.lookup f = none
  | [], gs, r, e => by
    unfold RepF at r
    subst r
    rfl
  | (k, x) :: fs, gs, r, e => by
    unfold RepF at r
    obtain ⟨v, t, rfl, rx, rt⟩ := r
    rw [List.lookup_cons] at e ⊢
    cases h : f == k with
    | true => rw [h] at e; cases e
    | false =>
      rw [h] at e
      exact RepF.lookupN rt e
def allM : List M → Bool
  | [] => true
  | .f :: r => allM r
  | _ => false
theorem RepOm.unfrz {K : PySem.W.Frag} {F : Addr → Prop} {H : Hp} : ∀ {ms : List M} {fs : List (Str × D)} {gs : List (Str × V)} {q : List Addr}, allM ms = true → fs.map (·.1) = gs.map (·.1) → RepOm K F H ms (fs.map (·.2)) (gs.map (·.2)) q → q = [] ∧ RepF K F H fs gs
  | [], fs, gs, q, a, e, r => by
    unfold RepOm at r
    obtain ⟨h1, h2, h3⟩ := r
    have : fs = [] := by simpa using h1
    subst this
    have : gs = [] := by simpa using h2
    subst this
    exact ⟨h3, by unfold RepF; rfl⟩
  | .o c :: ms, fs, gs, q, a, e, r => by simp [allM] at a
  | .r c :: ms, fs, gs, q, a, e, r => by simp [allM] at a
  | .f :: ms, fs, gs, q, a, e, r => by
    unfold RepOm at r
    obtain ⟨d, dr, v, vr, f1, f2, e1, e2, e3, dj, x, y⟩ := r
    cases fs with
    | nil => simp at e1
    | cons p fs =>
      cases gs with
      | nil => simp at e2
      | cons p' gs =>
        obtain ⟨k, d'⟩ := p
        obtain ⟨k', v'⟩ := p'
        simp only [List.map_cons, List.cons.injEq] at e e1 e2
        obtain ⟨rfl, e⟩ := e
        obtain ⟨rfl, e1⟩ := e1
        obtain ⟨rfl, e2⟩ := e2
        rw [← e1, ← e2] at y
        obtain ⟨h1, h2⟩ := RepOm.unfrz (by unfold allM at a; exact a) e y
        unfold RepO at x
        refine ⟨by rw [e3, x.1, h1]; rfl, ?_⟩
        unfold RepF
        exact ⟨_, _, rfl, x.2, h2⟩
theorem RepOm.frz {K : PySem.W.Frag} {F : Addr → Prop} {H : Hp} : ∀ {fs : List (Str × D)} {gs : List (Str × V)}, RepF K F H fs gs → fs.map (·.1) = gs.map (·.1) ∧ RepOm K F H (List.replicate fs.length .f) (fs.map (·.2)) (gs.map (·.2)) []
  | [], gs, r => by
    unfold RepF at r
    subst r
    refine ⟨rfl, ?_⟩
    show RepOm K F H [] [] [] []
    unfold RepOm
    exact ⟨rfl, rfl, rfl⟩
  | (k, d) :: fs, gs, r => by
    unfold RepF at r
    obtain ⟨v, t, rfl, x, y⟩ := r
    obtain ⟨e, z⟩ := RepOm.frz y
    refine ⟨by simp [e], ?_⟩
    show RepOm K F H (.f :: List.replicate fs.length .f) (d :: fs.map (·.2)) (v :: t.map (·.2)) []
    unfold RepOm
    refine ⟨d, _, v, _, [], [], rfl, rfl, rfl, (fun a m => nomatch m), ?_, z⟩
    unfold RepO
    exact ⟨rfl, x⟩
/-- an instance: frozen, or one's own with frozen fields -/
def obD : M × D → Option (Addr × List (Str × D))
  | (.f, .obj C fs) => some (C, fs)
  | (.r ms, .obj C fs) => if allM ms then some (C, fs) else none
  | _ => none
theorem obD_rep {K : PySem.W.Frag} {F : Addr → Prop} {H : Hp} {a : M × D} {v : V} {q : List Addr} {C : Addr} {fs : List (Str × D)} (h : obD a = some (C, fs)) (r : RepO K F H a.1 a.2 v q) : ∃ x dx gs, v = .ref x ∧ H x = some (.ins C dx gs) ∧ RepF K F H fs gs := by
  obtain ⟨m, d⟩ := a
  cases m with
  | f =>
    cases d <;> simp [obD] at h
    obtain ⟨rfl, rfl⟩ := h
    have := rep_f r
    unfold Rep at this
    obtain ⟨x, dx, gs, e, _, hh, rr⟩ := this
    exact ⟨x, dx, gs, e, hh, rr⟩
  | o c => cases d <;> simp [obD] at h
  | r ms =>
    cases d <;> simp [obD] at h
    obtain ⟨ha, rfl, rfl⟩ := h
    unfold RepO at r
    obtain ⟨x, dx, gs, fr, e, hh, _, _, ek, rm⟩ := r
    exact ⟨x, dx, gs, e, hh, (RepOm.unfrz ha ek rm).2⟩
def fldO (ok : Addr → Bool) (f : Str) : M × D → Option (M × D) := fun a => (obD a).bind fun c => if ok c.1 then (c.2.lookup f).map fun d => (.f, d) else none
section
variable {X : Cx} {W : WX} {e : Expr} {T : List Sl → EO} {pos : Pos} {f : Str} {ok : Addr → Bool}
def rFld (K : PySem.W.Frag) (f : Str) : V → Hp → VK → Prop := fun x H1 Q => ∃ a C dx fs v, x = .ref a ∧ H1 a = some (.ins C dx fs) ∧ Cls K C ∧ NoAttr K C f ∧ fs.lookup f = some v ∧ Q v H1
theorem fe_fld (hok : ∀ C, ok C = true → Cls X.K C ∧ NoAttr X.K C f) (he : FE X W e T) (hb : attributeBase e f X.env (eval e X.env) = eval e X.env := by rfl) : FE X W (.Attribute e f pos) (use1 (fldO ok f) T) := by
  refine fe_use1 (r := rFld X.K f) (fun F H x a q m d Q lv r e k => ?_) (pe_fld he hb)
  obtain ⟨⟨C, fs⟩, ec, e⟩ := Option.bind_eq_some_iff.mp e
  split at e
  · rename_i hc
    obtain ⟨d', ed, e⟩ := Option.map_eq_some_iff.mp e
    cases e
    obtain ⟨x', dx, gs, rfl, hx, rf⟩ := obD_rep ec r
    obtain ⟨v, hv, rv⟩ := rf.lookup ed
    exact ⟨x', C, dx, gs, v, rfl, hx, (hok C hc).1, (hok C hc).2, hv, k.pure lv rv⟩
  · cases e
end
end FL

namespace FL
open PySem PySem.Spec PyProof.Rows L2
section
variable {K : PySem.W.Frag} {W : WX} {G : Gh} {st st1 : List TI} {ρ : List Sl} {σ : L2.St} {H : Hp} {F : Addr → Prop} {fp : Bool → Nat → List Addr}
/-- the wish behind a call, by what the function gives -/
def AftC (K : PySem.W.Frag) (G : Gh) (st : List TI) (ρ : List Sl) (σ : L2.St) (ss : List (Option Nat)) (Q : VK) (E : XK) : FO → Prop
  | .ret m d as' => ∀ v H', EI K G (.t m d v :: st) (backs ρ ss as') σ H' → Q v H'
  | .exc C fs as' => ∀ ad gs H', EI K G (.w (PX K fs ad gs) :: st) (backs ρ ss as') σ H' → E (.ref C) (some ad) H'
  | .no => False
theorem call_core {f : List (M × D) → FO} {n : Nat} {vs : List V} {as : List (M × D)} {ss : List (Option Nat)} {Q : VK} {E : XK} (I : EIF K G st ρ σ H F fp) (ap : apart ss = true) (lv : vs.length = n) (la : as.length = n) (ls : ss.length = n)
    (r1 : ∀ j a, as[j]? = some a → ∃ v, vs[j]? = some v ∧ RepO K F H a.1 a.2 v (argFp fp ss j) ∧ ∀ k, ss[j]? = some (some k) → slotAt ρ k = some a ∧ σ[k]? = some (some v)) (h : AftC K G st ρ σ ss Q E (f as)) : spF K n f vs H Q E := by
  have hs : ∀ j k : Nat, ss[j]? = some (some k) → (∃ a, slotAt ρ k = some a) ∧ ∃ v, vs[j]? = some v ∧ σ[k]? = some (some v) := fun j k e => by
    have hj : j < as.length := by
      have := (List.getElem?_eq_some_iff.mp e).1
      omega
    obtain ⟨v, ev, _, hk⟩ := r1 j as[j] (List.getElem?_eq_getElem hj)
    exact ⟨⟨_, (hk k e).1⟩, v, ev, (hk k e).2⟩
  refine ⟨lv, F, argFp fp ss, as, la, I.lv, fun j a ea => ?_, fun j a ha => ?_, fun i j a h1 h2 => ?_, ?_⟩
  · obtain ⟨v, ev, r, _⟩ := r1 j a ea
    exact ⟨v, ev, r⟩
  · obtain ⟨k, e, hk⟩ := argFp_mem ha
    refine ⟨?_, (I.nf true k a hk).1⟩
    have := (List.getElem?_eq_some_iff.mp e).1
    omega
  · obtain ⟨k, e, hk⟩ := argFp_mem h1
    obtain ⟨k', e', hk'⟩ := argFp_mem h2
    have := (I.dj true k true k' a hk hk').2
    subst this
    exact apart_inj ap e e'
  · cases ef : f as with
    | no =>
      rw [ef] at h
      exact h.elim
    | ret m d as' =>
      rw [ef] at h
      intro v H' F' q fp' b r hq
      have J := I.back ap hs b
      rw [dims_id] at J
      exact h v H' (I.backPush J r hq)
    | exc C fs as' =>
      rw [ef] at h
      intro ad gs H' F' fp' b hf hx hr
      have J := I.back ap hs b
      rw [dims_id] at J
      exact h ad gs H' ⟨_, _, J.push (t := .w _) (q := []) ⟨rfl, px_stab, hf, hx, hr⟩ (fun a m => nomatch m) fun a m => nomatch m⟩
/-! ### one more slot -/
theorem EIF.addSlot {m : M} {d : D} {v : V} (I : EIF K G (.t m d v :: st) ρ σ H F fp) : EIF K G st (ρ ++ [.va none m d]) (σ ++ [some v]) H F (fun b i => if b = true ∧ i = ρ.length then fp false 0 else popF fp b i) := by
  have top : RepO K F H m d v (fp false 0) := I.ti 0
  have hl := I.len
  have J := I.pop
  refine ⟨fun i => ?_, fun j => ?_, fun b i a h => ?_, fun b i b' i' a h h' => ?_, I.keep, I.f0, I.fo, I.lv, by simp [hl]⟩
  · by_cases hi : i = ρ.length
    · subst hi
      rw [if_pos ⟨rfl, rfl⟩, List.getD_eq_getElem?_getD, List.getElem?_append_right (Nat.le_refl _), List.getElem?_append_right (by rw [hl]; exact Nat.le_refl _), hl, Nat.sub_self]
      exact ⟨v, rfl, top, fun j e => nomatch e⟩
    · rw [if_neg (fun z => hi z.2)]
      have s := J.sl i
      by_cases h2 : i < ρ.length
      · rw [List.getD_eq_getElem?_getD, List.getElem?_append_left h2, List.getElem?_append_left (by rw [← hl]; exact h2), ← List.getD_eq_getElem?_getD]
        exact s
      · have e : (ρ ++ [Sl.va none m d]).getD i .no = .no := by
          rw [List.getD_eq_getElem?_getD, List.getElem?_eq_none (by simp; omega)]
          rfl
        rw [e]
        have e2 : ρ.getD i .no = .no := by
          rw [List.getD_eq_getElem?_getD, List.getElem?_eq_none (by omega)]
          rfl
        rw [e2] at s
        exact s
  · rw [if_neg (fun z => nomatch z.1)]
    have t := J.ti j
    cases hr : st.getD j .x with
    | t m d v => rw [hr] at t; exact t
    | w P => rw [hr] at t; exact t
    | x => rw [hr] at t; exact t
    | s k u =>
      rw [hr] at t
      refine ⟨t.1, ?_⟩
      have hk := (List.getElem?_eq_some_iff.mp t.2).1
      rw [List.getElem?_append_left hk]
      exact t.2
  · split at h
    · exact I.nf false 0 a h
    · exact J.nf b i a h
  · have pop0 : ∀ b j, a ∈ popF fp b j → a ∈ fp false 0 → False := fun b j x y => by
      cases b with
      | true =>
        have := (I.dj true j false 0 a x y).1
        cases this
      | false =>
        have := (I.dj false (j + 1) false 0 a x y).2
        cases this
    split at h
    · rename_i c
      split at h'
      · rename_i c'
        exact ⟨c.1.trans c'.1.symm, c.2.trans c'.2.symm⟩
      · exact (pop0 _ _ h' h).elim
    · split at h'
      · exact (pop0 _ _ h h').elim
      · exact J.dj b i b' i' a h h'
theorem EIF.takeSlot {p : Option Nat} {m : M} {d : D} {v : V} (I : EIF K G st (ρ ++ [.va p m d]) (σ ++ [some v]) H F fp) (hn : ∀ (j k : Nat) u, st[j]? = some (FL.TI.s k u) → k < σ.length) : EI K G (.t m d v :: st) ρ σ H := by
  have hl : ρ.length = σ.length := by have := I.len; simpa using this
  have at_ : ∀ b i a, a ∈ (if b = true ∧ i = ρ.length then [] else fp b i) → a ∈ fp b i ∧ ¬ (b = true ∧ i = ρ.length) := fun b i a h => by
    split at h
    · cases h
    · exact ⟨h, by assumption⟩
  have last := I.sl ρ.length
  rw [List.getD_eq_getElem?_getD, List.getElem?_append_right (Nat.le_refl _), List.getElem?_append_right (by rw [hl]; exact Nat.le_refl _), hl, Nat.sub_self] at last
  obtain ⟨w, ew, r, _⟩ := last
  cases ew
  have J : EIF K G st ρ σ H F (fun b i => if b = true ∧ i = ρ.length then [] else fp b i) := by
    refine ⟨fun i => ?_, fun j => ?_, fun b i a h => I.nf b i a (at_ _ _ _ h).1, fun b i b' i' a h h' => I.dj b i b' i' a (at_ _ _ _ h).1 (at_ _ _ _ h').1, I.keep, I.f0, I.fo, I.lv, hl⟩
    · by_cases hi : i = ρ.length
      · subst hi
        rw [if_pos ⟨rfl, rfl⟩, List.getD_eq_getElem?_getD, List.getElem?_eq_none (Nat.le_refl _)]
        rfl
      · rw [if_neg (fun z => hi z.2)]
        have s := I.sl i
        by_cases h2 : i < ρ.length
        · rw [List.getD_eq_getElem?_getD, List.getElem?_append_left h2, List.getElem?_append_left (by rw [← hl]; exact h2), ← List.getD_eq_getElem?_getD] at s
          exact s
        · have e : (ρ ++ [Sl.va p m d]).getD i .no = .no := by
            rw [List.getD_eq_getElem?_getD, List.getElem?_eq_none (by simp; omega)]
            rfl
          rw [e] at s
          rw [List.getD_eq_getElem?_getD, List.getElem?_eq_none (by omega)]
          exact s
    · rw [if_neg (fun z => nomatch z.1)]
      have t := I.ti j
      cases hr : st[j]? with
      | none =>
        rw [List.getD_eq_getElem?_getD, hr] at t ⊢
        exact t
      | some u =>
        rw [List.getD_eq_getElem?_getD, hr] at t ⊢
        cases u with
        | t m d v => exact t
        | w P => exact t
        | x => exact t
        | s k u =>
          refine ⟨t.1, ?_⟩
          have t2 := t.2
          rw [List.getElem?_append_left (hn j k u hr)] at t2
          exact t2
  have r' : RepO K F H m d v (fp true ρ.length) := by rw [hl]; exact r
  exact ⟨F, _, J.push (t := .t m d v) (q := fp true ρ.length) r' (fun a h => I.nf true ρ.length a h) fun a h b i h' => (at_ _ _ _ h').2 ⟨(I.dj b i true ρ.length a (at_ _ _ _ h').1 h).1, (I.dj b i true ρ.length a (at_ _ _ _ h').1 h).2⟩⟩
theorem EIF.slots (I : EIF K G st ρ σ H F fp) : ∀ (j k : Nat) u, st[j]? = some (FL.TI.s k u) → k < σ.length := fun j k u e => by
  have t := I.ti j
  rw [List.getD_eq_getElem?_getD, e] at t
  exact (List.getElem?_eq_some_iff.mp t.2).1
end
/-! ### o.m(..) -/
section
variable {X : Cx} {W : WX} {n k : Nat} {f C : Addr} {fd : FuncData} {ps : List Str} {g : List (M × D) → FO} {m : Str} {p pos apos : Pos} {o e : Expr} {es : List Expr} {To : List Sl → EO} {Ts : List Sl → AO}
theorem pe_methSD {CX : CXT} {sp : Sp} {E : L2.St → XK} {ta : TE} {t : TA} {pl : Sem Bool} (he : PE X o ta) (c : Cls X.K C) (hm : Meth X.K C m f) (F : FnOk X.prog X.w X.K X.mg X.base CX k f fd ps sp) (hr : Room k X.A) (hb : Binds X.K fd ps []) (hx : ∀ σ, PassesAt CX X σ (E σ)) (ha : PA X (e :: es) t)
    (hst : starEach (e :: es) X.env = (false, eval e X.env) :: starEach es X.env := by rfl) (hpl : (backTo pos (starEach es X.env)).any (·.1) = false := by rfl)
    (ht : eval (.Call (.Attribute o m apos) (e :: es) [] pos) X.env = (do
      let ov ← eval o X.env
      standAt apos.atName
      let (f, first) ← holding [ov] (getMethod ov m pl)
      callWith pos f first (backTo pos (starEach (e :: es) X.env)) (backToKw pos (keywordEach [] X.env))) := by rfl) :
    PE X (.Call (.Attribute o m apos) (e :: es) [] pos) (fun σ H Q => tMeth C m sp [] (E σ) ta t σ H Q) := by
  refine ⟨fun pins s σ H Q I h => ?_⟩
  refine PySem.W.methodCall_KW (pl := pl) (thn (he.run pins s σ H _ I h) fun u s1 ⟨x, H1, I1, rx, a, dx, fs, ex, ea, l, q⟩ => ?_) ht
  subst ex
  obtain rfl : u = Value.ref a := rx
  refine getmeth_ok I1 ea c hm l ?_
  refine PySem.W.callWith_K (first := [.ref a]) (h₀ := X.base) I.ok.mod.kin hm.kp (thn (ha.run pos pins s1 σ H1 _ I1 q) fun us s2 ⟨vs, H2, I2, r, q2⟩ => ⟨I2.kIn, ?_⟩) hst hpl
  exact run_fnSD (us := .ref a :: us) (vs := .ref a :: vs) (dvs := []) (ds := []) F hr hb .nil (hx σ) I2 (.cons rfl r) q2
theorem pe_meth0SD {CX : CXT} {sp : Sp} {E : L2.St → XK} {ta : TE} {pl : Sem Bool} (he : PE X o ta) (c : Cls X.K C) (hm : Meth X.K C m f) (F : FnOk X.prog X.w X.K X.mg X.base CX k f fd ps sp) (hr : Room k X.A) (hb : Binds X.K fd ps []) (hx : ∀ σ, PassesAt CX X σ (E σ))
    (ht : eval (.Call (.Attribute o m apos) [] [] pos) X.env = (do
      let ov ← eval o X.env
      standAt apos.atName
      let (f, first) ← holding [ov] (getMethod ov m pl)
      callWith pos f first (backTo pos (starEach [] X.env)) (backToKw pos (keywordEach [] X.env))) := by rfl) :
    PE X (.Call (.Attribute o m apos) [] [] pos) (fun σ H Q => tMeth C m sp [] (E σ) ta tNil σ H Q) := by
  refine ⟨fun pins s σ H Q I h => ?_⟩
  refine PySem.W.methodCall_KW (pl := pl) (thn (he.run pins s σ H _ I h) fun u s1 ⟨x, H1, I1, rx, a, dx, fs, ex, ea, l, q⟩ => ?_) ht
  subst ex
  obtain rfl : u = Value.ref a := rx
  refine getmeth_ok I1 ea c hm l ?_
  exact PySem.W.callWith_K0 (first := [.ref a]) I1.kIn hm.kp (run_fnSD (us := [.ref a]) (vs := [.ref a]) (dvs := []) (ds := []) F hr hb .nil (hx σ) I1 (.cons rfl .nil) q)
def recvOk (C : Addr) (m : Str) : EO → Bool
  | .ok _ k md d ρ => match (curR true ρ k md d).bind obD with
    | some (C', fs) => decide (C' = C) && (fs.lookup m).isNone
    | none => false
  | _ => true
def methE (C : Addr) (m : Str) (f : List (M × D) → FO) (To : List Sl → EO) (Ts : List Sl → AO) : List Sl → EO := fun ρ => if recvOk C m (To ρ) then callE f (consA To Ts) ρ else .no
theorem meth_t {K : PySem.W.Frag} {σ : L2.St} {H : Hp} {Q : VK} {E : XK} (h : tE K W (methE C m g To Ts) σ H Q) (hn : ∀ ρ p its ρ1, Ts ρ = .ok p its ρ1 → its.length = n) (hE : ∀ c d H', W c d σ H' → E c d H') :
    tMeth C m (spF K (n + 1) g) [] E (tE K W To) (tA K W Ts) σ H Q := by
  obtain ⟨G, st, ρ, I, h⟩ := h
  unfold methE at h
  split at h
  case isFalse => exact h.elim
  rename_i hrec
  refine ⟨G, st, ρ, I, ?_⟩
  unfold callE at h
  have h : Aft K W G st σ Q ((consA To Ts ρ).bind fun p its ρ1 => match lents ρ1 its with
    | none => .no
    | some as => if apart (its.map slotOf) then (match g as with
      | .ret m d as' => .ok (p && allNone (its.map slotOf)) .t m d (backs ρ1 (its.map slotOf) as')
      | .exc C fs as' => .ex C fs (backs ρ1 (its.map slotOf) as')
      | .no => .no) else .no) := h
  unfold consA at h
  cases et : To ρ with
  | no => rw [et] at h; exact h.elim
  | ex C fs ρ1 => rw [et] at h; exact h
  | ok p1 k1 m1 d1 ρ1 =>
    rw [et] at h hrec
    intro v H1 I1
    rw [dims_id] at I1
    -- the receiver
    obtain ⟨x, dx, gs, fs, ev, hx, rf, hl⟩ : ∃ x dx gs fs, v = .ref x ∧ H1 x = some (.ins C dx gs) ∧ RepF K (fun _ => True) H1 fs gs ∧ fs.lookup m = none := by
      unfold recvOk at hrec
      cases ec : (curR true ρ1 k1 m1 d1).bind obD with
      | none => simp only [ec] at hrec; cases hrec
      | some z =>
        obtain ⟨C', fs⟩ := z
        simp only [ec, Bool.and_eq_true, decide_eq_true_eq] at hrec
        obtain ⟨rfl, hn⟩ := hrec
        obtain ⟨a, ea, eo⟩ := Option.bind_eq_some_iff.mp ec
        obtain ⟨F, fp, I2⟩ := I1
        obtain ⟨q, r1⟩ := rep_top I2 ea
        obtain ⟨x, dx, gs, e, hh, rr⟩ := obD_rep eo r1
        exact ⟨x, dx, gs, fs, e, hh, RepF.mono (fun _ _ => trivial) (fun _ _ _ h => h) _ _ rr, by simpa using hn⟩
    subst ev
    refine ⟨x, dx, gs, rfl, hx, rf.lookupN hl, G, _, ρ1, I1, ?_⟩
    simp only [EO.bindA] at h
    cases es : Ts ρ1 with
    | no => rw [es] at h; exact h.elim
    | ex C fs ρ2 =>
      rw [es] at h
      intro a gs H2 I2
      rw [dims_id] at I2
      exact h a gs H2 (by rw [dims_id]; exact I2.drop2)
    | ok p2 its ρ2 =>
      rw [es] at h
      intro vs H2 hl2 I2
      rw [dims_id] at I2
      have I2 : EI K G (stackA ((dimK p2 k1, m1, d1) :: its) (V.ref x :: vs) st) ρ2 σ H2 := by
        show EI K G (stackA its vs (mkA (dimK p2 k1, m1, d1) (V.ref x) :: st)) ρ2 σ H2
        rw [mkA_dim]
        have e : (if p2 = true then mkI k1 m1 d1 (V.ref x) else (mkI k1 m1 d1 (V.ref x)).dim) = mkI k1 m1 d1 (V.ref x) := by cases p2 <;> cases k1 <;> rfl
        rw [e]
        exact I2
      simp only [AO.consA, AO.bind] at h
      generalize hits : ((dimK p2 k1, m1, d1) :: its) = its1 at h I2
      have hlen : (V.ref x :: vs).length = its1.length := by rw [← hits]; simp [hl2]
      have hn1 : its1.length = n + 1 := by rw [← hits]; simp [hn _ _ _ _ es]
      cases el : lents ρ2 its1 with
      | none => simp only [el] at h; exact h.elim
      | some as =>
        simp only [el] at h
        obtain ⟨F, fp, I3⟩ := I2
        obtain ⟨l1, r1⟩ := lents_rep hlen I3 el
        obtain ⟨fp1, I4, e1⟩ := EIF.popA hlen I3
        cases ap : apart (its1.map slotOf) with
        | false => simp only [ap] at h; exact h.elim
        | true =>
          simp only [ap, if_true] at h
          have eA : argFp fp (its1.map slotOf) = argFp fp1 (its1.map slotOf) := by
            funext j
            unfold argFp
            rw [e1]
          rw [eA] at r1
          show spF K (n + 1) g (.ref x :: (vs ++ [])) H2 Q E
          rw [List.append_nil]
          refine call_core I4 ap (by rw [hlen, hn1]) (by rw [l1, hlen, hn1]) (by rw [List.length_map, hn1]) r1 ?_
          cases eg : g as with
          | no => rw [eg] at h; exact h.elim
          | ret m d as' =>
            rw [eg] at h
            intro w H' J
            exact h w H' (by rw [dims_id]; exact J)
          | exc C fs as' =>
            rw [eg] at h
            intro ad gs H' J
            exact hE _ _ _ (h ad gs H' (by rw [dims_id]; exact J))
theorem fe_meth {pl : Sem Bool} (F : FnOk X.prog X.w X.K X.mg X.base (L2.CX X.prog X.w) k f fd ps (spF X.K (n + 1) g)) (hr : Room k X.A) (c : Cls X.K C) (hm : Meth X.K C m f) (hb : Binds X.K fd ps []) (tk : Takes X W) (ho : FE X W o To) (ha : FA X W (e :: es) Ts) (hn : ∀ ρ p its ρ1, Ts ρ = .ok p its ρ1 → its.length = n)
    (hst : starEach (e :: es) X.env = (false, eval e X.env) :: starEach es X.env := by rfl) (hpl : (backTo pos (starEach es X.env)).any (·.1) = false := by rfl)
    (ht : eval (.Call (.Attribute o m apos) (e :: es) [] pos) X.env = (do
      let ov ← eval o X.env
      standAt apos.atName
      let (f, first) ← holding [ov] (getMethod ov m pl)
      callWith pos f first (backTo pos (starEach (e :: es) X.env)) (backToKw pos (keywordEach [] X.env))) := by rfl) : FE X W (.Call (.Attribute o m apos) (e :: es) [] pos) (methE C m g To Ts) :=
  PE.imp (pe_methSD (E := WE W) ho c hm F hr hb (fun σ => passAt tk σ) ha hst hpl ht) fun σ H Q h => meth_t h hn fun _ _ _ h => h
theorem fe_meth0 {pl : Sem Bool} (F : FnOk X.prog X.w X.K X.mg X.base (L2.CX X.prog X.w) k f fd ps (spF X.K 1 g)) (hr : Room k X.A) (c : Cls X.K C) (hm : Meth X.K C m f) (hb : Binds X.K fd ps []) (tk : Takes X W) (ho : FE X W o To)
    (ht : eval (.Call (.Attribute o m apos) [] [] pos) X.env = (do
      let ov ← eval o X.env
      standAt apos.atName
      let (f, first) ← holding [ov] (getMethod ov m pl)
      callWith pos f first (backTo pos (starEach [] X.env)) (backToKw pos (keywordEach [] X.env))) := by rfl) : FE X W (.Call (.Attribute o m apos) [] [] pos) (methE C m g To nilA) :=
  PE.imp (pe_meth0SD (E := WE W) ho c hm F hr hb (fun σ => passAt tk σ) ht) fun σ H Q h => by
    have z := meth_t (E := WE W σ) h len_nil fun _ _ _ h => h
    obtain ⟨G, st, ρ, I, z⟩ := z
    refine ⟨G, st, ρ, I, ?_⟩
    cases et : To ρ with
    | no => rw [et] at z; exact z
    | ex C fs ρ1 => rw [et] at z; exact z
    | ok p1 k1 m1 d1 ρ1 =>
      rw [et] at z
      intro v H1 I1
      obtain ⟨x, dx, gs, ev, hx, hl, G2, st2, ρ2, I2, z2⟩ := z v H1 I1
      exact ⟨x, dx, gs, ev, hx, hl, z2 [] H1 rfl I2⟩
end
end FL

namespace FL
open PySem PySem.Spec PyProof.Rows L2
/-! ### C(..) -/
section
variable {X : Cx} {CX : CXT} {k : Nat} {f C : Addr} {fd : FuncData} {ps : List Str} {sp : Sp} {x : Str} {p pos : Pos} {e : Expr} {es : List Expr} {t : TA}
theorem run_makeSD {E : L2.St → XK} {pins : List (Addr × Obj)} {σ : L2.St} {H : Hp} {s : Shared} {Q : VK} {us : List Value} {vs : List V} (M : Mk X.K C f) (F : FnOk X.prog X.w X.K X.mg X.base CX k f fd ps sp) (hr : Room (k + 1) X.A) (hb : Binds X.K fd ps [])
    (hx : PassesAt CX X σ (E σ)) (I : Inv X pins σ H s) (r : Vals vs us)
    (h : ∀ x dx, H x = none → H dx = none → dx ≠ x → sp (.ref x :: vs) (upd (upd H dx (.own x)) x (.ins C dx [])) (fun v H2 => v = .non ∧ Q (.ref x) H2) (E σ)) :
    wpAny (model X.prog X.w) X.A (call (.ref C) us) (EP X pins σ Q) X.xe s := by
  have hq := h (s.heap.objs.size + 1) s.heap.objs.size (I.hok.fresh (Nat.le_succ _)) (I.hok.fresh (Nat.le_refl _)) (Nat.ne_of_lt (Nat.lt_succ_self _))
  have I2 := Inv.made (C := C) I
  have r2 : Vals (V.ref (s.heap.objs.size + 1) :: vs) (Value.ref (s.heap.objs.size + 1) :: us) := .cons rfl r
  have hl : (Value.ref (s.heap.objs.size + 1) :: us ++ []).length = ps.length := by
    have e := r2.length
    rw [F.len _ _ _ _ hq] at e
    rw [List.append_nil]
    exact e.symm
  refine wpAny_call (make_map (f := f) I.kIn M.makes M.init (beq_iff_eq.mp M.fn) (codeAny_mono (F.run _ X.stack _ _ ⟨Value.ref (s.heap.objs.size + 1) :: us, []⟩ (Value.ref (s.heap.objs.size + 1) :: us) _ _ (E σ) (hr.make C us [])
    (I2.env0.make C us []) (by have := hb _ (Value.ref (s.heap.objs.size + 1) :: us) I2.kIn hl; rw [List.append_nil] at this; exact this) r2 hq) fun r s' hq' => ?_))
  cases r with
  | error e => exact hx pins _ _ e s' I2 hq'
  | ok fl =>
    cases fl with
    | ret u =>
      obtain ⟨v, H', I3, rv, ev, q3⟩ := I2.after hq'
      subst ev
      exact ⟨rv, ⟨V.ref (s.heap.objs.size + 1), H', I3, rfl, q3⟩⟩
    | next => exact False.elim hq'
    | brk => exact False.elim hq'
    | cont => exact False.elim hq'
theorem pe_makeSD {E : L2.St → XK} (M : Mk X.K C f) (F : FnOk X.prog X.w X.K X.mg X.base CX k f fd ps sp) (hr : Room (k + 1) X.A) (hg : Gl X x) (hm : X.mg x = some (.ref C)) (hb : Binds X.K fd ps []) (hx : ∀ σ, PassesAt CX X σ (E σ))
    (ha : PA X (e :: es) t) (hdb : (x == ("__debug__" : Str)) = false := by decide) (he : starEach (e :: es) X.env = (false, eval e X.env) :: starEach es X.env := by rfl) (hpl : (backTo pos (starEach es X.env)).any (·.1) = false := by rfl) :
    PE X (.Call (.Name x p) (e :: es) [] pos) (fun σ H Q => t σ H fun vs H1 => ∀ x dx, H1 x = none → H1 dx = none → dx ≠ x → sp (.ref x :: vs) (upd (upd H1 dx (.own x)) x (.ins C dx [])) (fun v H2 => v = .non ∧ Q (.ref x) H2) (E σ)) := by
  refine ⟨fun pins s σ H Q I h => ?_⟩
  refine wpAny_Call_Name_kw (ld_glob I hg hm ?_ hdb)
  refine PySem.W.callWith_K (h₀ := X.base) I.ok.mod.kin M.kp (thn (ha.run pos pins s σ H _ I h) fun us s1 ⟨vs, H1, I1, r, q⟩ => ⟨I1.kIn, ?_⟩) he hpl
  exact run_makeSD M F hr hb (hx σ) I1 r q
end
def FO.made : FO → (M → D → List (M × D) → EO) → ((Addr) → List (Str × D) → List (M × D) → EO) → EO
  | .ret .f .non (a0 :: as'), k, _ => k a0.1 a0.2 as'
  | .exc C fs (_ :: as'), _, k => k C fs as'
  | _, _, _ => .no
def makeE (C : Addr) (f : List (M × D) → FO) (Ts : List Sl → AO) : List Sl → EO := fun ρ => (Ts ρ).bind fun p its ρ1 => match lents ρ1 its with
  | none => .no
  | some as => if apart (its.map slotOf) then (f ((.r [], .obj C []) :: as)).made (fun m d as' => .ok (p && allNone (its.map slotOf)) .t m d (backs ρ1 (its.map slotOf) as')) (fun C fs as' => .ex C fs (backs ρ1 (its.map slotOf) as')) else .no
theorem backs_app {ρ : List Sl} {s : Sl} {ss : List (Option Nat)} {as' : List (M × D)} {a0 : M × D} {p : Option Nat} {m : M} {d : D} (hs : ∀ (j k : Nat), ss[j]? = some (some k) → k < ρ.length) : backs (ρ ++ [.va p m d]) (some ρ.length :: ss) (a0 :: as') = backs ρ ss as' ++ [.va p a0.1 a0.2] := by
  unfold backs
  rw [List.mapIdx_append]
  congr 1
  · refine List.ext_getElem? fun i => ?_
    rw [List.getElem?_mapIdx, List.getElem?_mapIdx]
    cases e : ρ[i]? with
    | none => rfl
    | some s =>
      have hi := (List.getElem?_eq_some_iff.mp e).1
      simp only [Option.map_some, Option.some.injEq]
      unfold backSl
      have hne : ((some ρ.length : Option Nat) == some i) = false := by
        simp
        omega
      have ef : (some ρ.length :: ss).findIdx? (· == some i) = (ss.findIdx? (· == some i)).map (· + 1) := by
        rw [List.findIdx?_cons, hne]
        rfl
      rw [ef]
      cases ss.findIdx? (· == some i) with
      | none => rfl
      | some j => cases s <;> simp
  · simp [backSl, List.findIdx?_cons]
theorem slot_lt {ρ : List Sl} {k : Nat} {a : M × D} (h : slotAt ρ k = some a) : k < ρ.length := by
  unfold slotAt at h
  cases e : ρ[k]? with
  | none => rw [e] at h; cases h
  | some s => exact (List.getElem?_eq_some_iff.mp e).1
section
variable {X : Cx} {W : WX} {n k : Nat} {f C : Addr} {fd : FuncData} {ps : List Str} {g : List (M × D) → FO} {x : Str} {p pos : Pos} {e : Expr} {es : List Expr} {Ts : List Sl → AO}
theorem make_t {K : PySem.W.Frag} {σ : L2.St} {H : Hp} {Q : VK} {E : XK} (h : tE K W (makeE C g Ts) σ H Q) (hn : ∀ ρ p its ρ1, Ts ρ = .ok p its ρ1 → its.length = n) (hE : ∀ c d H', W c d σ H' → E c d H') :
    tA K W Ts σ H fun vs H1 => ∀ x dx, H1 x = none → H1 dx = none → dx ≠ x → spF K (n + 1) g (.ref x :: vs) (upd (upd H1 dx (.own x)) x (.ins C dx [])) (fun v H2 => v = .non ∧ Q (.ref x) H2) E := by
  obtain ⟨G, st, ρ, I, h⟩ := h
  refine ⟨G, st, ρ, I, AftA.bind h (Over.refl st) fun p its ρ1 ex h vs H1 hl I1 x dx hx hd ne => ?_⟩
  rw [dims_id] at I1
  cases el : lents ρ1 its with
  | none => rw [el] at h; exact h.elim
  | some as =>
    rw [el] at h
    obtain ⟨F, fp, I2⟩ := I1
    obtain ⟨l1, r1⟩ := lents_rep hl I2 el
    obtain ⟨fp1, I3, e1⟩ := EIF.popA hl I2
    have hits := hn ρ p its ρ1 ex
    cases ap : apart (its.map slotOf) with
    | false => simp only [ap] at h; exact h.elim
    | true =>
      simp only [ap, if_true] at h
      have eA : argFp fp (its.map slotOf) = argFp fp1 (its.map slotOf) := by
        funext j
        unfold argFp
        rw [e1]
      rw [eA] at r1
      have hsl : ∀ (j k : Nat), (its.map slotOf)[j]? = some (some k) → k < ρ1.length := fun j k e => by
        have hj : j < as.length := by
          have := (List.getElem?_eq_some_iff.mp e).1
          simp only [List.length_map] at this
          omega
        obtain ⟨v, ev, _, hk⟩ := r1 j as[j] (List.getElem?_eq_getElem hj)
        exact slot_lt (hk k e).1
      -- two new objects
      have nF : ∀ b, H1 b = none → ¬ F b := fun b hb z => by
        obtain ⟨o, ho⟩ := I3.lv b z
        rw [hb] at ho
        cases ho
      have hx2 : (upd H1 dx (.own x)) x = none := by rw [upd_ne (Ne.symm ne)]; exact hx
      have ext1 := Ext.put (o := .own x) I3.lv hd
      have I4 := I3.ext ext1
      have ext2 := Ext.put (o := .ins C dx []) I4.lv hx2
      have I5 : EI K G (.t (.r []) (.obj C []) (.ref x) :: st) ρ1 σ (upd (upd H1 dx (.own x)) x (.ins C dx [])) := I4.pushNew (q := [x]) ext2 (by
        unfold RepO
        refine ⟨x, dx, [], [], rfl, upd_same, rfl, by simp, rfl, ?_⟩
        show RepOm K F _ [] [] [] []
        unfold RepOm
        exact ⟨rfl, rfl, rfl⟩) (fun a m => by
          rw [List.mem_singleton.mp m]
          exact ⟨nF x hx, hx2⟩)
      have keepfp : ∀ j, ∀ b ∈ argFp fp1 (its.map slotOf) j, (upd (upd H1 dx (.own x)) x (.ins C dx [])) b = H1 b := fun j b hb => by
        obtain ⟨kk, _, hk⟩ := argFp_mem hb
        obtain ⟨o, ho⟩ := I3.there true kk b hk
        rw [upd_ne (ne_of_none ho hx), upd_ne (ne_of_none ho hd)]
      -- the footprints of the slots stay
      have I5' : EIF K G (.t (.r []) (.obj C []) (.ref x) :: st) ρ1 σ (upd (upd H1 dx (.own x)) x (.ins C dx [])) F (pushF fp1 [x]) := by
        refine (I4.ext ext2).push (t := .t (.r []) (.obj C []) (.ref x)) (q := [x]) ?_ (fun a m => ?_) fun a m b i h' => ?_
        · show RepO K F _ (.r []) (.obj C []) (.ref x) [x]
          unfold RepO
          refine ⟨x, dx, [], [], rfl, upd_same, rfl, by simp, rfl, ?_⟩
          show RepOm K F _ [] [] [] []
          unfold RepOm
          exact ⟨rfl, rfl, rfl⟩
        · rw [List.mem_singleton.mp m]
          exact ⟨nF x hx, I3.fresh hx⟩
        · rw [List.mem_singleton.mp m] at h'
          obtain ⟨o, ho⟩ := I3.there b i x h'
          rw [hx] at ho
          cases ho
      have A := I5'.addSlot
      have hlen : ρ1.length = σ.length := I3.len
      generalize hfp2 : (fun (b : Bool) (i : Nat) => if b = true ∧ i = ρ1.length then pushF fp1 [x] false 0 else popF (pushF fp1 [x]) b i) = fp2 at A
      have fp2s : ∀ i, i ≠ ρ1.length → fp2 true i = fp1 true i := fun i hi => by
        rw [← hfp2]
        show (if true = true ∧ i = ρ1.length then _ else _) = _
        rw [if_neg (fun z => hi z.2)]
        rfl
      have fp2n : fp2 true ρ1.length = [x] := by
        rw [← hfp2]
        show (if true = true ∧ ρ1.length = ρ1.length then _ else _) = _
        rw [if_pos ⟨rfl, rfl⟩]
        rfl
      have ap2 : apart (some ρ1.length :: its.map slotOf) = true := by
        show (!(its.map slotOf).contains (some ρ1.length) && apart (its.map slotOf)) = true
        rw [ap, Bool.and_true]
        simp only [Bool.not_eq_true', List.contains_eq_mem, decide_eq_false_iff_not]
        intro m
        obtain ⟨j, hj, ej⟩ := List.getElem_of_mem m
        have := hsl j ρ1.length (by rw [List.getElem?_eq_getElem hj, ej])
        omega
      have argE : ∀ j, argFp fp2 (some ρ1.length :: its.map slotOf) (j + 1) = argFp fp1 (its.map slotOf) j := fun j => by
        unfold argFp
        rw [List.getElem?_cons_succ]
        cases e : (its.map slotOf)[j]? with
        | none => rfl
        | some o =>
          cases o with
          | none => rfl
          | some kk => exact fp2s kk (Nat.ne_of_lt (hsl j kk e))
      refine call_core A ap2 (by simp [hl, hits]) (as := (.r [], .obj C []) :: as) (by simp [l1, hl, hits]) (by simp [hits]) (fun j a ea => ?_) ?_
      · cases j with
        | zero =>
          simp only [List.getElem?_cons_zero, Option.some.injEq] at ea
          subst ea
          refine ⟨.ref x, rfl, ?_, fun kk ek => ?_⟩
          · show RepO K F _ (.r []) (.obj C []) (.ref x) (fp2 true ρ1.length)
            rw [fp2n]
            exact I5'.ti 0
          · simp only [List.getElem?_cons_zero, Option.some.injEq] at ek
            subst ek
            refine ⟨?_, ?_⟩
            · unfold slotAt
              rw [List.getElem?_append_right (Nat.le_refl _), Nat.sub_self]
              rfl
            · rw [hlen, List.getElem?_append_right (Nat.le_refl _), Nat.sub_self]
              rfl
        | succ j =>
          simp only [List.getElem?_cons_succ] at ea
          obtain ⟨v, ev, rv, hk⟩ := r1 j a ea
          refine ⟨v, by simpa using ev, ?_, fun kk ek => ?_⟩
          · rw [argE j]
            exact RepO.mono (fun _ h => h) (ext1.trans ext2).stays _ _ _ _ (fun b hb => keepfp j b hb) rv
          · simp only [List.getElem?_cons_succ] at ek
            obtain ⟨h1, h2⟩ := hk kk ek
            have hlt := slot_lt h1
            refine ⟨?_, ?_⟩
            · unfold slotAt at h1 ⊢
              rw [List.getElem?_append_left hlt]
              exact h1
            · rw [List.getElem?_append_left (by rw [← hlen]; exact hlt)]
              exact h2
      · cases eg : g ((.r [], .obj C []) :: as) with
        | no => rw [eg] at h; exact h.elim
        | ret m d as' =>
          rw [eg] at h
          cases m with
          | f =>
            cases d with
            | non =>
              cases as' with
              | nil => exact h.elim
              | cons a0 as' =>
                intro v H' J
                rw [backs_app (s := .no) hsl] at J
                obtain ⟨F6, fp6, J⟩ := J
                have ev : v = .non := by
                  have := rep_f (J.ti 0)
                  unfold Rep at this
                  exact this
                refine ⟨ev, ?_⟩
                -- the slot's value is still x
                have J2 := J.pop
                have fix : (σ ++ [some (V.ref x)])[ρ1.length]? = some (some (.ref x)) := by
                  rw [hlen, List.getElem?_append_right (Nat.le_refl _), Nat.sub_self]
                  rfl
                have J3 := J2.takeSlot I3.slots
                exact h (.ref x) H' (by rw [dims_id]; exact J3)
            | _ => exact h.elim
          | _ => exact h.elim
        | exc C' fs as' =>
          rw [eg] at h
          cases as' with
          | nil => exact h.elim
          | cons a0 as' =>
            intro ad gs H' J
            rw [backs_app (s := .no) hsl] at J
            obtain ⟨F6, fp6, J⟩ := J
            have J3 := (J.takeSlot (fun j k u e => by
              cases j with
              | zero => cases e
              | succ j => exact I3.slots j k u e)).pop
            exact hE _ _ _ (h ad gs H' (by rw [dims_id]; exact J3))
theorem fe_make (M : Mk X.K C f) (F : FnOk X.prog X.w X.K X.mg X.base (L2.CX X.prog X.w) k f fd ps (spF X.K (n + 1) g)) (hr : Room (k + 1) X.A) (hg : Gl X x) (hm : X.mg x = some (.ref C)) (hb : Binds X.K fd ps []) (tk : Takes X W)
    (ha : FA X W (e :: es) Ts) (hn : ∀ ρ p its ρ1, Ts ρ = .ok p its ρ1 → its.length = n) (hdb : (x == ("__debug__" : Str)) = false := by decide) (he : starEach (e :: es) X.env = (false, eval e X.env) :: starEach es X.env := by rfl)
    (hpl : (backTo pos (starEach es X.env)).any (·.1) = false := by rfl) : FE X W (.Call (.Name x p) (e :: es) [] pos) (makeE C g Ts) :=
  PE.imp (pe_makeSD (E := WE W) M F hr hg hm hb (fun σ => passAt tk σ) ha hdb he hpl) fun σ H Q h => make_t h hn fun _ _ _ h => h
end
end FL

namespace FL
open PySem PySem.Spec PyProof.Rows L2
/-! ### writing what a slot owns -/
section
variable {K : PySem.W.Frag} {W : WX} {G : Gh} {st st1 : List TI} {ρ : List Sl} {σ : L2.St} {H : Hp} {F : Addr → Prop} {fp : Bool → Nat → List Addr}
theorem EIF.setLst {i : Nat} {q : Option Nat} {ds : List D} (I : EIF K G st ρ σ H F fp) (hi : ρ[i]? = some (.va q (.o .f) (.lst ds))) : ∃ l vs, σ[i]? = some (some (.ref l)) ∧ H l = some (.lst vs) ∧ RepL K F H ds vs ∧
    ∀ ds' vs', RepL K F H ds' vs' → EI K G st (ρ.set i (.va q (.o .f) (.lst ds'))) σ (upd H l (.lst vs')) := by
  have s := I.sl i
  rw [List.getD_eq_getElem?_getD, hi] at s
  obtain ⟨v, ev, r0, hp⟩ := s
  obtain ⟨a, vs, rfl, h, ef, r⟩ := lstO.mp r0
  refine ⟨a, vs, ev, h, r, fun ds' vs' r' => ?_⟩
  have hlt := (List.getElem?_eq_some_iff.mp hi).1
  have hA : a ∈ fp true i := by rw [ef]; exact List.mem_cons_self
  have hF : ¬ F a := (I.nf true i a hA).1
  exact ⟨F, _, I.writeSl (i := i) (s := .va q (.o .f) (.lst ds')) (q := [a]) (o := .lst vs') hlt hA ⟨.ref a, ev, lstO.mpr ⟨a, vs', rfl, upd_same, rfl, r'.upd hF⟩, hp⟩ (fun b m => by rw [List.mem_singleton.mp m]; exact hA)⟩
theorem EIF.setDct {i : Nat} {q : Option Nat} {ds : List (D × D)} (I : EIF K G st ρ σ H F fp) (hi : ρ[i]? = some (.va q (.o .f) (.dct ds))) : ∃ l vs, σ[i]? = some (some (.ref l)) ∧ H l = some (.dK vs) ∧ RepK K F H ds vs ∧
    ∀ ds' vs', RepK K F H ds' vs' → EI K G st (ρ.set i (.va q (.o .f) (.dct ds'))) σ (upd H l (.dK vs')) := by
  have s := I.sl i
  rw [List.getD_eq_getElem?_getD, hi] at s
  obtain ⟨v, ev, r0, hp⟩ := s
  obtain ⟨a, vs, rfl, h, ef, r⟩ := dctO.mp r0
  refine ⟨a, vs, ev, h, r, fun ds' vs' r' => ?_⟩
  have hlt := (List.getElem?_eq_some_iff.mp hi).1
  have hA : a ∈ fp true i := by rw [ef]; exact List.mem_cons_self
  have hF : ¬ F a := (I.nf true i a hA).1
  exact ⟨F, _, I.writeSl (i := i) (s := .va q (.o .f) (.dct ds')) (q := [a]) (o := .dK vs') hlt hA ⟨.ref a, ev, dctO.mpr ⟨a, vs', rfl, upd_same, rfl, r'.upd hF⟩, hp⟩ (fun b m => by rw [List.mem_singleton.mp m]; exact hA)⟩
theorem RepF.upd {d : List (Str × D)} {v : List (Str × V)} {A : Addr} {o : HO} (r : RepF K F H d v) (hF : ¬ F A) : RepF K F (upd H A o) d v :=
  RepF.mono (fun _ h => h) (fun b u f e => by rw [upd_ne (fun z => by subst z; exact hF f)]; exact e) _ _ r
theorem EIF.setIns {i : Nat} {q : Option Nat} {ms : List M} {C : Addr} {fs : List (Str × D)} (I : EIF K G st ρ σ H F fp) (hi : ρ[i]? = some (.va q (.r ms) (.obj C fs))) (hm : allM ms = true) : ∃ x dx gs, σ[i]? = some (some (.ref x)) ∧ H x = some (.ins C dx gs) ∧ RepF K F H fs gs ∧
    ∀ fs' gs', RepF K F H fs' gs' → EI K G st (ρ.set i (.va q (.r (List.replicate fs'.length .f)) (.obj C fs'))) σ (upd H x (.ins C dx gs')) := by
  have s := I.sl i
  rw [List.getD_eq_getElem?_getD, hi] at s
  obtain ⟨v, ev, r0, hp⟩ := s
  unfold RepO at r0
  obtain ⟨x, dx, gs, fr, rfl, hx, ef, nf, ek, rm⟩ := r0
  obtain ⟨e2, rf⟩ := RepOm.unfrz hm ek rm
  subst e2
  refine ⟨x, dx, gs, ev, hx, rf, fun fs' gs' r' => ?_⟩
  have hlt := (List.getElem?_eq_some_iff.mp hi).1
  have hA : x ∈ fp true i := by rw [ef]; exact List.mem_cons_self
  have hF : ¬ F x := (I.nf true i x hA).1
  obtain ⟨k1, k2⟩ := RepOm.frz (r'.upd (o := .ins C dx gs') hF)
  exact ⟨F, _, I.writeSl (i := i) (s := .va q (.r (List.replicate fs'.length .f)) (.obj C fs')) (q := [x]) (o := .ins C dx gs') hlt hA ⟨.ref x, ev, by
    unfold RepO
    exact ⟨x, dx, gs', [], rfl, upd_same, rfl, by simp, k1, k2⟩, hp⟩ (fun b m => by rw [List.mem_singleton.mp m]; exact hA)⟩
theorem slot_own {i : Nat} {q : Option Nat} {m : M} {d : D} (hi : ρ[i]? = some (.va q m d)) : slotAt ρ i = some (m, d) := by
  unfold slotAt
  rw [hi]
end
/-! ### x.append(e) -/
def appE (i : Nat) (T : List Sl → EO) : List Sl → EO := fun ρ => match slotAt ρ i with
  | some (.o .f, .lst _) => (T ρ).bind fun _ k m d ρ1 => (match k, m, ρ1[i]? with
    | .t, .f, some (.va q (.o .f) (.lst ds)) => if ds.length < 16777216 then .ok false .t .f .non (ρ1.set i (.va q (.o .f) (.lst (ds ++ [d])))) else .no
    | _, _, _ => .no)
  | _ => .no
section
variable {X : Cx} {W : WX} {i : Nat} {o e : Expr} {T : List Sl → EO} {apos cpos pos : Pos}
theorem own_lst {K : PySem.W.Frag} {F : Addr → Prop} {H : Hp} {ds : List D} {v : V} {q : List Addr} (r : RepO K F H (.o .f) (.lst ds) v q) : ∃ a vs, v = .ref a ∧ H a = some (.lst vs) := by
  obtain ⟨a, vs, e, h, _, _⟩ := lstO.mp r
  exact ⟨a, vs, e, h⟩
theorem fe_append (ho : PE X o (tVar i)) (he : FE X W e T) (hbase : attributeBase o "append" X.env (eval o X.env) = eval o X.env := by rfl)
    (hfew : ((backTo cpos (starEach [e] X.env)).all (fun x => !x.1) && (backToKw cpos (keywordEach [] X.env)).all (fun x => x.1.isSome)
      && decide (([e] : List Expr).length + ([] : List Keyword).length + (if ([] : List Keyword).isEmpty then 0 else 1) < 30)) = true := by rfl)
    (hline : (apos.endLine == cpos.line) = true := by rfl) (hs : starEach [e] X.env = (false, eval e X.env) :: starEach [] X.env := by rfl) : FE X W (.Call (.Attribute o "append" apos) [e] [] cpos) (appE i T) := by
  refine PE.imp (pe_bm F.plainAttrs_list F.slot_list_append F.type_list_append mt_append ho (pa_cons he pa_nil hs) hbase hfew hline hs) fun σ H Q ⟨G, st, ρ, I, h⟩ => ?_
  unfold appE at h
  split at h
  case h_2 => exact h.elim
  rename_i ds0 es
  obtain ⟨F, fp, J⟩ := id I
  obtain ⟨v, ev, r⟩ := J.slot es
  obtain ⟨a, vs, rfl, ha⟩ := own_lst r
  refine ⟨.ref a, ev, .inl ⟨rfl, vs, .inl (.inl ha)⟩, G, st, ρ, I, Aft.bind h (Over.refl st) fun p k m d ρ1 ex h y H1 I1 => ?_⟩
  rw [dims_id] at I1
  cases k with
  | s k => exact h.elim
  | w => exact h.elim
  | t =>
    cases m with
    | o c => exact h.elim
    | r ms => exact h.elim
    | f =>
      try dsimp only at h
      split at h
      case h_2 => exact h.elim
      rename_i q ds e1
      split at h
      case isFalse => exact h.elim
      rename_i hlen
      obtain ⟨F1, fp1, I1⟩ := I1
      have ry := rep_f (I1.ti 0)
      have I2 := I1.pop
      obtain ⟨l, ws, el, hl, rl, k⟩ := I2.setLst (by assumption)
      rw [ev] at el
      cases el
      refine ⟨_, ws, y, rfl, rfl, hl, by rw [← rl.len, sizeLine_eq]; exact hlen, h .non _ ?_⟩
      rw [dims_id]
      obtain ⟨F2, fp2, I3⟩ := k _ _ (rl.snoc ry)
      exact I3.pushRep (by unfold Rep; rfl)
end
/-! ### x[k] = e -/
def rSetU : TSet := fun o i v H Q => rSetL o i v H Q ∨ rSetD o i v H Q
theorem set_u {X : Cx} (hu : X.A.units + 1 < cLine) : PSet X rSetU := by
  intro pins s σ H o i v ov iv u Q I ro ri rv h
  rcases h with h | h
  · exact set_list pins s σ H o i v ov iv u Q I ro ri rv h
  · exact set_dict hu pins s σ H o i v ov iv u Q I ro ri rv h
/-- what is stored -/
def putIx (ρ : List Sl) (i : Nat) (kd d : D) : Option (List Sl) := match ρ[i]? with
  | some (.va q (.o .f) (.lst ds)) => (inD (.f, kd)).bind fun k => (ixN ds.length k).map fun j => ρ.set i (.va q (.o .f) (.lst (ds.set j d)))
  | some (.va q (.o .f) (.dct kvs)) => (keyOf kd).bind fun _ => if kvs.length < 16777216 then some (ρ.set i (.va q (.o .f) (.dct (putD kvs kd d)))) else none
  | _ => none
theorem RepL.setD {K : PySem.W.Frag} {F : Addr → Prop} {H : Hp} {d : D} {v : V} (rv : Rep K F H d v) : ∀ {ds : List D} {vs : List V} (j : Nat), RepL K F H ds vs → RepL K F H (ds.set j d) (vs.set j v)
  | [], vs, j, r => by
    unfold RepL at r
    subst r
    simp
    unfold RepL
    rfl
  | x :: ds, vs, 0, r => by
    unfold RepL at r
    obtain ⟨u, t, rfl, a, b⟩ := r
    simp only [List.set_cons_zero]
    unfold RepL
    exact ⟨v, t, rfl, rv, b⟩
  | x :: ds, vs, j + 1, r => by
    unfold RepL at r
    obtain ⟨u, t, rfl, a, b⟩ := r
    simp only [List.set_cons_succ]
    unfold RepL
    exact ⟨u, _, rfl, a, RepL.setD rv j b⟩
theorem putIx_ok {K : PySem.W.Frag} {G : Gh} {st : List TI} {ρ ρ' : List Sl} {σ : L2.St} {H : Hp} {F : Addr → Prop} {fp : Bool → Nat → List Addr} {i : Nat} {kd d : D} {o kv y : V} {Q : Hp → Prop} (I : EIF K G st ρ σ H F fp) (e : putIx ρ i kd d = some ρ') (ho : σ[i]? = some (some o)) (rk : Rep K F H kd kv) (ry : Rep K F H d y) (k : ∀ H', EI K G st ρ' σ H' → Q H') : rSetU o kv y H Q := by
  unfold putIx at e
  split at e
  · rename_i q ds e1
    obtain ⟨n, en, e⟩ := Option.bind_eq_some_iff.mp e
    obtain ⟨j, ej, e⟩ := Option.map_eq_some_iff.mp e
    subst e
    obtain ⟨l, vs, el, hl, rl, kk⟩ := I.setLst e1
    rw [ho] at el
    cases el
    have ekv : kv = .int n := by
      have := inD_rep (a := (.f, kd)) (q := []) en (K := K) (F := F) (H := H) (v := kv) (by unfold RepO; exact ⟨rfl, rk⟩)
      exact this
    exact .inl ⟨_, vs, n, j, rfl, ekv, hl, by rw [← rl.len]; exact ej, k _ (kk _ _ (rl.setD ry j))⟩
  · rename_i q kvs e1
    obtain ⟨key, ek, e⟩ := Option.bind_eq_some_iff.mp e
    split at e
    · rename_i hlen
      cases e
      obtain ⟨l, gs, el, hl, rl, kk⟩ := I.setDct e1
      rw [ho] at el
      cases el
      have ed := keyOf_some ek
      subst ed
      have ekv : kv = kV key := by cases key <;> (unfold dK Rep at rk; exact rk)
      subst ekv
      exact .inr ⟨_, _, rfl, DPut.k hl (by rw [← rl.len, sizeLine_eq]; exact hlen), k _ (kk _ _ (rl.put key ry))⟩
    · cases e
  · cases e
def setIxS (i : Nat) (Tk Tv : List Sl → EO) : List Sl → SO := fun ρ => (Tv ρ).bindS fun _ k m d ρ1 => match k, m with
  | .t, .f => if (slotAt ρ1 i).isSome then (Tk ρ1).bindS (fun _ k2 m2 kd ρ2 => match k2, m2 with
    | .t, .f => (match putIx ρ2 i kd d with
      | some ρ3 => .nx ρ3
      | none => .no)
    | _, _ => .no) else .no
  | _, _ => .no
section
variable {X : Cx} {W : WX} {i k : Nat} {o ie e : Expr} {Tk Tv T : List Sl → EO} {pos pos' : Pos}
theorem EI.deadT {K : PySem.W.Frag} {G : Gh} {st : List TI} {ρ : List Sl} {σ : L2.St} {H : Hp} {m : M} {d : D} {v : V} (I : EI K G (.t m d v :: st) ρ σ H) : EI K G (.t m d v :: FL.dead st) ρ σ H := by
  have := I.dead
  exact this
theorem fs_setIx (hu : X.A.units + 65 < cLine) (ho : PE X o (tVar i)) (hk : FE X W ie Tk) (hv : FE X W e Tv) (hs : swapsWithSole [.Subscript o ie pos'] e pos.line X.env = pure false := by rfl) (hw : swappedStores [.Subscript o ie pos'] e X.env = pure none := by rfl)
    (h1 : (assignEach [.Subscript o ie pos'] X.env).map (·.2) = [assign (.Subscript o ie pos') X.env] := by rfl)
    (ha : ∀ v, assign (.Subscript o ie pos') X.env v = (do
      let ov ← holding [v] (eval o X.env)
      let iv ← holding [v, ov] (eval ie X.env)
      standAt pos'
      holding [v, ov, iv] (setItem ov iv v)
      release [v, ov, iv] []) := by intro _; rfl) : FS X W (.Assign [.Subscript o ie pos'] e pos) (setIxS i Tk Tv) := by
  refine PS.imp (ps_asg hv (pg_sub ho hk (set_u (by omega)) ha) hs hw h1) fun E σ H ⟨G, st, ρ, I, h⟩ => ⟨G, st, ρ, I, Aft.bindS h fun p k m d ρ1 ex h y H1 I1 => ?_⟩
  rw [dims_id] at I1
  cases k with
  | s k => exact h.elim
  | w => exact h.elim
  | t =>
    cases m with
    | o c => exact h.elim
    | r ms => exact h.elim
    | f =>
      dsimp only at h
      split at h
      case isFalse => exact h.elim
      rename_i hsome
      obtain ⟨r0, er0⟩ := Option.isSome_iff_exists.mp hsome
      obtain ⟨F1, fp1, J1⟩ := id I1
      obtain ⟨ov, eo, _⟩ := J1.slot (k := i) (m := r0.1) (d := r0.2) er0
      refine ⟨ov, eo, G, _, ρ1, I1, ?_⟩
      have h' : AftS X.K W G (.t .f d y :: st) E ((Tk ρ1).bindS (fun _ k2 m2 kd ρ2 => match k2, m2 with
        | .t, .f => (match putIx ρ2 i kd d with
          | some ρ3 => .nx ρ3
          | none => .no)
        | _, _ => .no)) := by
        cases et : Tk ρ1 with
        | no => rw [et] at h; exact h
        | ex C fs ρ2 =>
          rw [et] at h
          intro σ a gs H2 I2
          have I3 : EI X.K G (.w (PX X.K fs a gs) :: FL.dims false (dead st)) ρ2 σ H2 := by
            rw [dims_id] at I2 ⊢
            exact I2.drop2
          exact h σ a gs H2 I3
        | ok p2 k2 m2 kd ρ2 =>
          rw [et] at h
          simp only [EO.bindS] at h ⊢
          cases k2 <;> cases m2 <;> try exact h
          dsimp only at h ⊢
          cases ep : putIx ρ2 i kd d with
          | none => rw [ep] at h; exact h
          | some ρ3 =>
            rw [ep] at h
            exact fun σ H I => h σ H I.pop
      refine Aft.bindS h' fun p2 k2 m2 kd ρ2 ex2 h2 kv H2 I2 => ?_
      rw [dims_id] at I2
      cases k2 with
      | s k => exact h2.elim
      | w => exact h2.elim
      | t =>
        cases m2 with
        | o c => exact h2.elim
        | r ms => exact h2.elim
        | f =>
          dsimp only at h2
          cases ep : putIx ρ2 i kd d with
          | none => rw [ep] at h2; exact h2.elim
          | some ρ3 =>
            rw [ep] at h2
            obtain ⟨F2, fp2, I2⟩ := I2
            have I2 : EIF X.K G (.t .f kd kv :: .t .f d y :: st) ρ2 σ H2 F2 fp2 := I2
            have rk := rep_f (I2.ti 0)
            have ry := rep_f (I2.ti 1)
            exact putIx_ok I2.pop ep eo rk ry fun H' I3 => h2 σ H' I3.dead
end
end FL

namespace FL
open PySem PySem.Spec PyProof.Rows L2
/-- a wish does not ask what lies on top -/
theorem AftS.cons {K : PySem.W.Frag} {W : WX} {G : Gh} {t : TI} {st : List TI} {E : Ends} {x : SO} (h : AftS K W G st E x) : AftS K W G (t :: st) E x := by
  cases x with
  | nx ρ => exact fun σ H I => h σ H (by have I : EI K G (t.dead :: FL.dead st) ρ σ H := I; exact I.pop)
  | rt m d ρ => exact fun v σ H I => h v σ H (by have I : EI K G (.t m d v :: t.dead :: FL.dead st) ρ σ H := I; exact I.drop2)
  | bk ρ => exact fun σ H I => h σ H (by have I : EI K G (t.dead :: FL.dead st) ρ σ H := I; exact I.pop)
  | ct ρ => exact fun σ H I => h σ H (by have I : EI K G (t.dead :: FL.dead st) ρ σ H := I; exact I.pop)
  | ex C fs ρ => exact fun σ a gs H I => h σ a gs H (by
      rw [dims_id] at I ⊢
      have I : EI K G (.w (PX K fs a gs) :: t.dead :: FL.dead st) ρ σ H := I
      exact I.drop2)
  | no => exact h
/-! ### x op= e, of ints -/
def augS (i : Nat) (g : M × D → M × D → Option (M × D)) (T : List Sl → EO) : List Sl → SO := fun ρ => match slotAt ρ i with
  | some (.f, d0) => (T ρ).bindS fun _ k m d ρ1 => (match k, m, g (.f, d0) (.f, d) with
    | .t, .f, some (.f, d2) => if i < ρ1.length then .nx (ρ1.set i (.va none .f d2)) else .no
    | _, _, _ => .no)
  | _ => .no
/-- an augmented operator, by data -/
structure AugF (X : Cx) (op : Operator) (g : M × D → M × D → Option (M × D)) : Prop where
  ex : ∃ ti, PIp X op ti ∧ OpM X.K ti g
section
variable {X : Cx} {W : WX} {i j k : Nat} {x y : Str} {e : Expr} {T : List Sl → EO} {pos pos' : Pos} {op : Operator} {g : M × D → M × D → Option (M × D)}
theorem om_ip {K : PySem.W.Frag} {f : Int → Int → Int} : OpM K (ipI f) (on2 inD inD fun i j => some (.f, .int (f i j))) := by
  intro F H x y a b q q' m d Q lv ra rb e k
  obtain ⟨i, j, hi, hj, e⟩ := on2_some e
  cases e
  exact ⟨i, j, inD_rep hi ra, inD_rep hj rb, k.int lv⟩
def augAddD : M × D → M × D → Option (M × D) := on2 inD inD fun i j => some (.f, .int (i + j))
def augSubD : M × D → M × D → Option (M × D) := on2 inD inD fun i j => some (.f, .int (i - j))
theorem a_add : AugF X .Add augAddD := ⟨_, ip_add, om_ip⟩
theorem a_sub : AugF X .Sub augSubD := ⟨_, ip_sub, om_ip⟩
theorem fs_aug (ha : AugF X op g) (hN : X.N.Nodup) (hi : X.N[i]? = some x) (hx : Loc X.env.scope x) (he : FE X W e T) (hf : X.fn x = true ∨ X.env.scope.names.lookup x = some .local := by first | exact .inl rfl | exact .inr rfl | assumption) : FS X W (.AugAssign (.Name x pos') op e pos) (augS i g T) := by
  obtain ⟨ti, hp, hm⟩ := ha.ex
  refine PS.imp (ps_aug hN hi hx he hp hf) fun E σ H ⟨G, st, ρ, I, h⟩ => ?_
  unfold augS at h
  split at h
  case h_2 => exact h.elim
  rename_i d0 e0
  obtain ⟨F, fp, J⟩ := id I
  obtain ⟨v, ev, r⟩ := J.slot e0
  have rv := rep_f r
  refine ⟨v, ev, ?_⟩
  have I0 : EI X.K G (.t .f d0 v :: st) ρ σ H := J.pushRep rv
  refine ⟨G, _, ρ, I0, ?_⟩
  have h' := AftS.cons (t := .t .f d0 v) h
  refine Aft.bindS h' fun p k m d ρ1 ex h y H1 I1 => ?_
  rw [dims_id] at I1
  try dsimp only at h
  split at h
  case h_2 => exact h.elim
  rename_i d2 e2
  split at h
  case isFalse => exact h.elim
  rename_i hlt
  obtain ⟨F1, fp1, I1⟩ := I1
  have I1 : EIF X.K G (.t .f d y :: .t .f d0 v :: st) ρ1 σ H1 F1 fp1 := I1
  refine hm F1 H1 v y (.f, d0) (.f, d) _ _ .f d2 _ I1.lv (I1.ti 1) (I1.ti 0) e2 ?_
  refine EIF.hands (G := G) (ρ := ρ1) (σ := σ) I1.pop fun z H2 I2 => ?_
  obtain ⟨F2, fp2, I2⟩ := I2
  exact h _ H2 (I2.assign (i := i) (by rw [← I2.len]; exact hlt))
end
/-! ### self.f = e, while it is made -/
def putFD (f : Str) (y : D) : List (Str × D) → List (Str × D)
  | [] => [(f, y)]
  | (g, x) :: r => if g = f then (g, y) :: r else (g, x) :: putFD f y r
def setFldS (i : Nat) (ok : Addr → Bool) (f : Str) (T : List Sl → EO) : List Sl → SO := fun ρ => (T ρ).bindS fun _ k m d ρ1 => match k, m, ρ1[i]? with
  | .t, .f, some (.va q (.r ms) (.obj C fs)) => if allM ms && ok C && decide (fs.length < 1000) then .nx (ρ1.set i (.va q (.r (List.replicate (putFD f d fs).length .f)) (.obj C (putFD f d fs)))) else .no
  | _, _, _ => .no
theorem RepF.putF {K : PySem.W.Frag} {F : Addr → Prop} {H : Hp} {f : Str} {d : D} {v : V} (rv : Rep K F H d v) : ∀ {fs : List (Str × D)} {gs : List (Str × V)}, RepF K F H fs gs → RepF K F H (putFD f d fs) (putF f v gs)
  | [], gs, r => by
    unfold RepF at r
    subst r
    show RepF K F H [(f, d)] [(f, v)]
    unfold RepF
    exact ⟨v, [], rfl, rv, by unfold RepF; rfl⟩
  | (g, x) :: fs, gs, r => by
    unfold RepF at r
    obtain ⟨u, t, rfl, a, b⟩ := r
    show RepF K F H (if g = f then (g, d) :: fs else (g, x) :: putFD f d fs) (if g = f then (g, v) :: t else (g, u) :: L2.putF f v t)
    by_cases h : g = f
    · rw [if_pos h, if_pos h]
      unfold RepF
      exact ⟨v, t, rfl, rv, b⟩
    · rw [if_neg h, if_neg h]
      unfold RepF
      exact ⟨u, _, rfl, a, RepF.putF rv b⟩
theorem RepF.length {K : PySem.W.Frag} {F : Addr → Prop} {H : Hp} : ∀ {fs : List (Str × D)} {gs : List (Str × V)}, RepF K F H fs gs → fs.length = gs.length
  | [], gs, r => by unfold RepF at r; subst r; rfl
  | (g, x) :: fs, gs, r => by
    unfold RepF at r
    obtain ⟨u, t, rfl, a, b⟩ := r
    simp [RepF.length b]
section
variable {X : Cx} {W : WX} {i j k : Nat} {x y : Str} {o e : Expr} {T : List Sl → EO} {pos pos' : Pos} {f : Str} {ok : Addr → Bool}
theorem fs_setFld (hok : ∀ C, ok C = true → Cls X.K C ∧ NoAttr X.K C f) (ho : PE X o (tVar i)) (hv : FE X W e T) (hs : swapsWith e (some (.Attribute o f pos')) pos.line X.env = pure false := by rfl) : FS X W (.Assign [.Attribute o f pos'] e pos) (setFldS i ok f T) := by
  refine PS.imp (ps_fld ho hv hs) fun E σ H ⟨G, st, ρ, I, h⟩ => ⟨G, st, ρ, I, Aft.bindS h fun p k m d ρ1 ex h y H1 I1 => ?_⟩
  rw [dims_id] at I1
  split at h
  case h_2 => exact h.elim
  rename_i q ms C fs e1
  split at h
  case isFalse => exact h.elim
  rename_i hc
  simp only [Bool.and_eq_true, decide_eq_true_eq] at hc
  obtain ⟨F1, fp1, I1⟩ := I1
  have I1 : EIF X.K G (.t .f d y :: st) ρ1 σ H1 F1 fp1 := I1
  have ry := rep_f (I1.ti 0)
  obtain ⟨x, dx, gs, ex, hx, rf, kk⟩ := I1.pop.setIns e1 hc.1.1
  refine ⟨.ref x, ex, x, C, dx, gs, rfl, hx, (hok C hc.1.2).1, (hok C hc.1.2).2, by rw [← rf.length]; exact hc.2, h σ _ (kk _ _ (rf.putF ry)).dead⟩
end
/-! ### a, b = x, y; (a, b) = e -/
def parS (i j : Nat) (Ts : List Sl → AO) : List Sl → SO := fun ρ => match Ts ρ with
  | .ok _ [(.k .t, m1, d1), (.k .t, m2, d2)] ρ1 => if i < ρ1.length ∧ j < ρ1.length then .nx ((ρ1.set i (.va none m1 d1)).set j (.va none m2 d2)) else .no
  | .ex C fs ρ1 => .ex C fs ρ1
  | _ => .no
def asgS (T : List Sl → EO) (g : D → List Sl → Option (List Sl)) : List Sl → SO := fun ρ => (T ρ).bindS fun _ k m d ρ1 => match k, m with
  | .t, .f => (match g d ρ1 with
    | some ρ2 => .nx ρ2
    | none => .no)
  | _, _ => .no
section
variable {X : Cx} {W : WX} {i j k : Nat} {x y : Str} {a b e tg : Expr} {T : List Sl → EO} {Ts : List Sl → AO} {g : D → List Sl → Option (List Sl)} {S : List Nat} {pos px py pt : Pos} {kt k2 : _} {pt2 : Pos}
theorem fs_par {kt k2 pt2} (hc : X.calm = true) (hN : X.N.Nodup) (hi : X.N[i]? = some x) (hj : X.N[j]? = some y) (hij : i ≠ j) (hx : X.env.scope.names.lookup x = some .local) (hy : X.env.scope.names.lookup y = some .local) (ha : FA X W [a, b] Ts)
    (hw : swappedStores [.Tuple [.Name x px, .Name y py] kt pt] (.Tuple [a, b] k2 pt2) X.env = pure (some [x, y]))
    (hs : swapsWithSole [.Tuple [.Name x px, .Name y py] kt pt] (.Tuple [a, b] k2 pt2) pos.line X.env = pure false := by rfl) : FS X W (.Assign [.Tuple [.Name x px, .Name y py] kt pt] (.Tuple [a, b] k2 pt2) pos) (parS i j Ts) := by
  refine PS.imp (ps_par hc hN hi hj hij hx hy ha hw hs) fun E σ H ⟨G, st, ρ, I, h⟩ => ⟨G, st, ρ, I, ?_⟩
  unfold parS at h
  split at h
  · rename_i p m1 d1 m2 d2 ρ1 et
    rw [et]
    split at h
    case isFalse => exact h.elim
    rename_i hlt
    intro vs H1 hl I1
    match vs, hl with
    | [v, w], hl =>
      rw [dims_id] at I1
      have I1 : EI X.K G (.t m2 d2 w :: .t m1 d1 v :: st) ρ1 σ H1 := I1
      refine ⟨v, w, rfl, ?_⟩
      obtain ⟨F, fp, I1⟩ := I1
      have I2 := I1.assign (i := j) (by rw [← I1.len]; exact hlt.2)
      obtain ⟨F2, fp2, I2⟩ := I2
      have I2 : EIF X.K G (.t m1 d1 v :: dead st) (ρ1.set j (.va none m2 d2)) (σ.set j (some w)) H1 F2 fp2 := I2
      have I3 := I2.assign (i := i) (by rw [List.length_set, ← I1.len]; exact hlt.1)
      rw [deads_dead, List.set_comm _ _ (Ne.symm hij), List.set_comm _ _ (Ne.symm hij)] at I3
      exact h _ _ I3
  · rename_i C fs ρ1 et
    rw [et]
    exact (h σ).dead fun _ _ _ _ I => I.deadW
  · exact h.elim
theorem fs_asg (he : FE X W e T) (hg : FG X S tg g) (hs : swapsWithSole [tg] e pos.line X.env = pure false := by rfl) (hw : swappedStores [tg] e X.env = pure none := by rfl)
    (h1 : (assignEach [tg] X.env).map (·.2) = [assign tg X.env] := by rfl) : FS X W (.Assign [tg] e pos) (asgS T g) := by
  refine PS.imp (ps_asg he hg hs hw h1) fun E σ H ⟨G, st, ρ, I, h⟩ => ⟨G, st, ρ, I, Aft.bindS h fun p k m d ρ1 ex h y H1 I1 => ?_⟩
  rw [dims_id] at I1
  cases k with
  | s k => exact h.elim
  | w => exact h.elim
  | t =>
    cases m with
    | o c => exact h.elim
    | r ms => exact h.elim
    | f =>
      try dsimp only at h
      split at h
      · rename_i ρ2 eg
        exact ⟨G, st, ρ1, d, I1, ρ2, eg, fun σ' _ I' => h σ' _ I'⟩
      · exact h.elim
end
end FL

namespace FL
open PySem PySem.Spec PyProof.Rows L2
/-! ### isinstance -/
def tyN : M × D → Option String
  | (.f, .non) => some "NoneType"
  | (.f, .bl _) => some "bool"
  | (.f, .int _) => some "int"
  | (.f, .str _) => some "str"
  | (.f, .tup _) => some "tuple"
  | (.f, .lst _) => some "list"
  | (.o .f, .lst _) => some "list"
  | (.f, .dct _) => some "dict"
  | (.o .f, .dct _) => some "dict"
  | _ => none
def tyNames : List String := ["NoneType", "bool", "int", "str", "tuple", "list", "dict"]
def tyIs (a b : String) : Bool := a == b || (a == "bool" && b == "int")
theorem tyIs_ok : (tyNames.all fun a => tyNames.all fun b => decide (kitB a b = some (tyIs a b))) = true := by decide +kernel
theorem tyN_in {a : M × D} {t : String} (h : tyN a = some t) : t ∈ tyNames := by
  obtain ⟨m, d⟩ := a
  cases m with
  | f => cases d <;> simp [tyN] at h <;> subst h <;> decide
  | o c => cases c <;> cases d <;> simp [tyN] at h <;> subst h <;> decide
  | r ms => cases d <;> simp [tyN] at h
theorem kit_tyIs {K : PySem.W.Frag} {a b : String} (ha : a ∈ tyNames) (hb : b ∈ tyNames) : PySem.W.kitOne K (.type a) (.type b) = some (tyIs a b) := by
  have := List.all_eq_true.mp (List.all_eq_true.mp tyIs_ok a ha) b hb
  exact kit_ty (of_decide_eq_true this)
/-- what isinstance asks of an own class -/
structure ClsT (K : PySem.W.Frag) (C : Addr) : Prop where
  cl : Cls K C
  ha : PySem.W.findIn K (.ref C) "__class__" = some (some (.builtin "object.__class__"))
  hn : PySem.W.specialIn K (.builtin "object.__class__") "__get__" = some (some (.builtin "getset_descriptor.__get__"))
  htk : PySem.W.takesIn K (.builtin "object.__class__") = some true
  hm : PySem.W.mroIn K C (.type "object") = some true
section
variable {K : PySem.W.Frag} {F : Addr → Prop} {H : Hp} {a : M × D} {v : V} {q : List Addr}
theorem tyN_ok {t : String} (h : tyN a = some t) (r : RepO K F H a.1 a.2 v q) : TyX K H v (.type t) := by
  obtain ⟨m, d⟩ := a
  cases m with
  | f =>
    have r := rep_f r
    cases d <;> simp [tyN] at h <;> subst h <;> unfold Rep at r
    · subst r; exact .base .non
    · subst r; exact .base (.bl _)
    · subst r; exact .base (.int _)
    · subst r; exact .base (.str _)
    · obtain ⟨p, vs, rfl, t, _⟩ := r
      rcases t.sq with h | ⟨o, its, n, hk, hc, _⟩
      · rcases h with h | ⟨o, h⟩
        · exact .base (.tup h)
        · exact .fTuple h
      · exact .kTuple hk hc
    · obtain ⟨p, vs, rfl, t, _⟩ := r
      rcases t.2 with h | ⟨o, h⟩
      · exact .base (.lst h)
      · exact .base (.frz h)
    · obtain ⟨p, gs, od, rfl, _, h, _⟩ := r
      exact .fDict h
  | o c =>
    cases c with
    | f =>
      cases d <;> simp [tyN] at h <;> subst h
      · obtain ⟨p, vs, rfl, h, _, _⟩ := lstO.mp r
        exact .base (.lst h)
      · obtain ⟨p, vs, rfl, h, _, _⟩ := dctO.mp r
        exact .base (.dK h)
    | _ => cases d <;> simp [tyN] at h
  | r ms => cases d <;> simp [tyN] at h
theorem obD_ok {C : Addr} {fs : List (Str × D)} (h : obD a = some (C, fs)) (r : RepO K F H a.1 a.2 v q) (c : ClsT K C) : TyX K H v (.ref C) := by
  obtain ⟨x, dx, gs, rfl, hx, _⟩ := obD_rep h r
  exact .base (.ins hx c.cl c.ha c.hn c.htk c.hm)
end
/-- isinstance(x, one of ns) -/
def isiO (ns : List String) (own : Addr → Option Bool) : M × D → Option (M × D) := fun a => match tyN a with
  | some t => some (.f, .bl (ns.any (tyIs t)))
  | none => (obD a).bind fun c => (own c.1).map fun b => (.f, .bl b)
/-- isinstance(x, C) -/
def isiC (own : Addr → Option Bool) : M × D → Option (M × D) := fun a => match tyN a with
  | some t => some (.f, .bl false)
  | none => (obD a).bind fun c => (own c.1).map fun b => (.f, .bl b)
section
variable {X : Cx} {W : WX} {e : Expr} {T : List Sl → EO} {p pos p2 : Pos} {own : Addr → Option Bool}
theorem pa_one2 {e b : Expr} {te : TE} {v : V} (he : PE X e te) (hb : PE X b (tC v)) (hs : starEach [e, b] X.env = (false, eval e X.env) :: starEach [b] X.env := by rfl) (hs2 : starEach [b] X.env = (false, eval b X.env) :: starEach [] X.env := by rfl) : PA X [e, b] (fun σ H Q => te σ H fun x H1 => Q [x, v] H1) := pa_cons he (pa_cons hb pa_nil hs2) hs
theorem fe_isiT {n : Str} {nm : String} {r0 : Value} (hr0 : r0 = .type nm) (hn : nm ∈ tyNames) (hown : ∀ C b, own C = some b → ClsT X.K C ∧ PySem.W.kitOne X.K (.ref C) (.type nm) = some b) (hg : Gl X "isinstance") (hm : X.mg "isinstance" = none) (hgn : Gl X n) (hmn : X.mg n = none) (hvn : bootBuiltins n = some r0)
    (he : FE X W e T) (hnn : n ≠ "__name__" := by decide) (hnd : (n == ("__debug__" : Str)) = false := by decide) (hs : starEach [e, .Name n p2] X.env = (false, eval e X.env) :: starEach [.Name n p2] X.env := by rfl) (hs2 : starEach [.Name n p2] X.env = (false, eval (.Name n p2) X.env) :: starEach [] X.env := by rfl)
    (hpl : (backTo pos (starEach [.Name n p2] X.env)).any (·.1) = false := by rfl) (hbt : bootBuiltins "isinstance" = some (.builtin "isinstance") := by decide +kernel) : FE X W (.Call (.Name "isinstance" p) [e, .Name n p2] [] pos) (use1 (isiO [nm] own) T) := by
  subst hr0
  refine fe_use1 (r := fun x H Q => rIsi X.K [x, .ty nm] H Q) (fun F H x a q m d Q lv r ea k => ?_) (pe_callB call_isi hg hm hbt (pa_one2 he (pe_bltn hgn hmn hvn (v := .ty nm) rfl hnn hnd) hs hs2) (by decide) (by decide) hs hpl)
  unfold isiO at ea
  split at ea
  · rename_i t et
    cases ea
    refine ⟨x, .ty nm, _, _, _, rfl, .ty nm, tyN_ok et r, kit_tyIs (tyN_in et) hn, ?_⟩
    have : [nm].any (tyIs t) = tyIs t nm := by simp
    rw [this] at k
    exact k.bl lv
  · obtain ⟨⟨C, fs⟩, ec, ea⟩ := Option.bind_eq_some_iff.mp ea
    obtain ⟨b, eb, ea⟩ := Option.map_eq_some_iff.mp ea
    cases ea
    obtain ⟨h1, h2⟩ := hown C b eb
    exact ⟨x, .ty nm, _, _, _, rfl, .ty nm, obD_ok ec r h1, h2, k.bl lv⟩
theorem fe_isiC {n : Str} {C : Addr} (hb : ∀ t ∈ tyNames, PySem.W.kitOne X.K (.type t) (.ref C) = some false) (hown : ∀ C' b, own C' = some b → ClsT X.K C' ∧ PySem.W.kitOne X.K (.ref C') (.ref C) = some b) (hg : Gl X "isinstance") (hm : X.mg "isinstance" = none) (hgn : Gl X n) (hmn : X.mg n = some (.ref C))
    (he : FE X W e T) (hnd : (n == ("__debug__" : Str)) = false := by decide) (hs : starEach [e, .Name n p2] X.env = (false, eval e X.env) :: starEach [.Name n p2] X.env := by rfl) (hs2 : starEach [.Name n p2] X.env = (false, eval (.Name n p2) X.env) :: starEach [] X.env := by rfl)
    (hpl : (backTo pos (starEach [.Name n p2] X.env)).any (·.1) = false := by rfl) (hbt : bootBuiltins "isinstance" = some (.builtin "isinstance") := by decide +kernel) : FE X W (.Call (.Name "isinstance" p) [e, .Name n p2] [] pos) (use1 (isiC own) T) := by
  refine fe_use1 (r := fun x H Q => rIsi X.K [x, .ref C] H Q) (fun F H x a q m d Q lv r ea k => ?_) (pe_callB call_isi hg hm hbt (pa_one2 he (pe_glob hgn hmn (v := .ref C) rfl hnd) hs hs2) (by decide) (by decide) hs hpl)
  unfold isiC at ea
  split at ea
  · rename_i t et
    cases ea
    exact ⟨x, .ref C, _, _, _, rfl, .own C, tyN_ok et r, hb t (tyN_in et), k.bl lv⟩
  · obtain ⟨⟨C', fs⟩, ec, ea⟩ := Option.bind_eq_some_iff.mp ea
    obtain ⟨b, eb, ea⟩ := Option.map_eq_some_iff.mp ea
    cases ea
    obtain ⟨h1, h2⟩ := hown C' b eb
    exact ⟨x, .ref C, _, _, _, rfl, .own C, obD_ok ec r h1, h2, k.bl lv⟩
end
/-! ### sep.join(..), d.get(k, x) -/
def strsD : List D → Option (List Str)
  | [] => some []
  | .str b :: r => (strsD r).map (b :: ·)
  | _ => none
theorem strsD_rep {K : PySem.W.Frag} {F : Addr → Prop} {H : Hp} : ∀ {ds : List D} {bs : List Str} {vs : List V}, strsD ds = some bs → RepL K F H ds vs → vs = bs.map V.str
  | [], bs, vs, h, r => by
    cases h
    unfold RepL at r
    exact r
  | d :: ds, bs, vs, h, r => by
    cases d <;> simp only [strsD] at h <;> try cases h
    obtain ⟨bs', e, rfl⟩ := Option.map_eq_some_iff.mp h
    unfold RepL at r
    obtain ⟨v, t, rfl, x, y⟩ := r
    unfold Rep at x
    subst x
    rw [strsD_rep e y]
    rfl
def joinD (a : Str) : M × D → Option (M × D) := fun x => (sqD x).bind fun ds => (strsD ds).bind fun ys => ifO (decide ((ys.map (·.length)).sum + ys.length * a.length ≤ 16777216)) (.str (Txt.join a ys))
def getE (To Tk Tx : List Sl → EO) : List Sl → EO := fun ρ => (To ρ).bind fun p1 k1 m1 d1 ρ1 => if ((curR true ρ1 k1 m1 d1).bind dcD).isSome then (Tk ρ1).bind fun p2 k2 m2 d2 ρ2 => (Tx ρ2).bind fun p3 k3 m3 d3 ρ3 =>
  .val (p1 && (p2 && p3)) ρ3 ((curR true ρ3 k1 m1 d1).bind fun a => (curR true ρ3 k2 m2 d2).bind fun b => (curR true ρ3 k3 m3 d3).bind fun c => (dcD a).bind fun kvs => (kyO b).bind fun k => match c with
    | (.f, x) => some (.f, (valD kvs (dK k)).getD x)
    | _ => none) else .no
section
variable {X : Cx} {W : WX} {o e f : Expr} {z : Str} {jj : _} {To Te Tk Tx : List Sl → EO} {apos pos cpos p0 : Pos} {k : Nat}
theorem mkI_cur' {p : Bool} {k : RK} {m : M} {d : D} {v : V} {ρ : List Sl} {r : M × D} (h : curR p ρ k m d = some r) : (mkI k m d v).cur ρ = some r := by
  cases k with
  | t => exact h
  | s k => exact h
  | w => cases h
theorem mkI_val' {p : Bool} {k : RK} {m : M} {d : D} {v : V} {ρ : List Sl} {r : M × D} (h : curR p ρ k m d = some r) : (mkI k m d v).val = v := by
  cases k with
  | t => rfl
  | s k => rfl
  | w => cases h
theorem EIF.repI {K : PySem.W.Frag} {G : Gh} {st : List TI} {ρ : List Sl} {σ : L2.St} {H : Hp} {F : Addr → Prop} {fp : Bool → Nat → List Addr} {j : Nat} {k : RK} {m : M} {d : D} {v : V} {r : M × D} {p : Bool} (I : EIF K G st ρ σ H F fp) (hj : st[j]? = some (mkI k m d v)) (h : curR p ρ k m d = some r) : ∃ q, RepO K F H r.1 r.2 v q := by
  obtain ⟨q, x⟩ := I.rep hj (mkI_cur' h)
  rw [mkI_val' h] at x
  exact ⟨q, x⟩
theorem fe_join (ho : PE X o (tC (.str z))) (he : FE X W e Te) (hs : starEach [e] X.env = [(false, eval e X.env)] := by rfl) (hbase : attributeBase o "join" X.env (eval o X.env) = eval o X.env := by rfl) (hline : (apos.endLine == pos.line) = true := by rfl) : FE X W (.Call (.Attribute o "join" apos) [e] [] pos) (use1 (joinD z) Te) := by
  refine fe_use1 (r := fun y H Q => ∃ a p, ∃ ys : List Str, V.str z = .str a ∧ [y] = [V.ref p] ∧ (SqL X.K H p (ys.map V.str) ∨ SqT X.K H p (ys.map V.str)) ∧ (ys.map (·.length)).sum + ys.length * a.length ≤ 16777216 ∧ Q (.str (Txt.join a ys)) H) (fun F H x a q m d Q lv r ea k => ?_) (PE.imp (pe_join ho he hs hbase hline) fun σ H Q h => ⟨⟨z, rfl⟩, h⟩)
  obtain ⟨ds, ed, ea⟩ := Option.bind_eq_some_iff.mp ea
  obtain ⟨ys, ey, ea⟩ := Option.bind_eq_some_iff.mp ea
  obtain ⟨h1, ea⟩ := ifO_some ea
  cases ea
  obtain ⟨p, vs, rfl, s1, r1⟩ := sqD_rep ed r
  rw [strsD_rep ey r1] at s1
  exact ⟨z, p, ys, rfl, rfl, s1, of_decide_eq_true h1, k.str lv⟩
theorem fe_get (hu : X.A.units + 65 < cLine) (ho : FE X W o To) (he : FE X W e Tk) (hf : FE X W f Tx) (m : M2 X o "get" apos e f cpos) : FE X W (.Call (.Attribute o "get" apos) [e, f] [] cpos) (getE To Tk Tx) := by
  refine PE.imp (pe_dget2 (by omega) ho he hf m) fun σ H Q ⟨G, st, ρ, I, h⟩ => ⟨G, st, ρ, I, Aft.bind h (Over.refl st) fun p1 k1 m1 d1 ρ1 ex1 h v H1 I1 => ?_⟩
  rw [dims_id] at I1
  split at h
  case isFalse => exact h.elim
  rename_i hs1
  obtain ⟨kv0, e0⟩ := Option.isSome_iff_exists.mp hs1
  obtain ⟨a0, ea0, e0⟩ := Option.bind_eq_some_iff.mp e0
  obtain ⟨F1, fp1, J1⟩ := id I1
  obtain ⟨q1, r1⟩ := J1.repI (j := 0) rfl ea0
  obtain ⟨d, gs0, rfl, hd0, _⟩ := dcD_rep e0 r1
  refine ⟨d, rfl, .inl ⟨gs0, hd0⟩, G, _, ρ1, I1, Aft.bind h (Over.cons1 _) fun p2 k2 m2 d2 ρ2 ex2 h u H2 I2 => ?_⟩
  rw [dims_id] at I2
  refine ⟨G, _, ρ2, I2, Aft.bind h (by
    intro G ρ σ H P hh
    rw [dims_id] at hh ⊢
    exact hh.drop2.drop2) fun p3 k3 m3 d3 ρ3 ex3 h w H3 I3 => ?_⟩
  rw [dims_id] at I3
  obtain ⟨m', d', e1, h⟩ := val_aft h
  obtain ⟨a, ea, e1⟩ := Option.bind_eq_some_iff.mp e1
  obtain ⟨b, eb, e1⟩ := Option.bind_eq_some_iff.mp e1
  obtain ⟨c, ec, e1⟩ := Option.bind_eq_some_iff.mp e1
  obtain ⟨kvs, ek, e1⟩ := Option.bind_eq_some_iff.mp e1
  obtain ⟨key, eky, e1⟩ := Option.bind_eq_some_iff.mp e1
  obtain ⟨F3, fp3, I3⟩ := I3
  obtain ⟨qa, ra⟩ := I3.repI (j := 2) rfl ea
  obtain ⟨qb, rb⟩ := I3.repI (j := 1) rfl eb
  obtain ⟨qc, rc⟩ := I3.repI (j := 0) rfl ec
  obtain ⟨d1', gs, ed, hd, rk⟩ := dcD_rep ek ra
  cases ed
  obtain ⟨mc, dc⟩ := c
  cases mc with
  | o c => cases e1
  | r ms => cases e1
  | f =>
    cases e1
    refine ⟨valV gs key, .inl ⟨gs, key, hd, kyO_rep eky rb, rfl⟩, ?_⟩
    have hh := I3.pop.pop.pop.hands (Q := Q) (m := .f) (d := (valD kvs (dK key)).getD dc) (by
      intro v H' I'
      exact h v H' (by rw [dims_id]; exact I'))
    rcases rk.val key with ⟨x1, x2⟩ | ⟨dd, vv, x1, x2, rv⟩
    · rw [x1] at hh
      rw [x2]
      exact hh.pure I3.lv (rep_f rc)
    · rw [x1] at hh
      rw [x2]
      exact hh.pure I3.lv rv
end
end FL

namespace FL
open PySem PySem.Spec PyProof.Rows L2
/-! ### an own exception is made -/
def pileV : List Str → List V → List (Str × V) → List (Str × V)
  | f :: fs, w :: ws, acc => pileV fs ws ((f, w) :: acc)
  | _, _, acc => acc
def pileD : List Str → List D → List (Str × D) → List (Str × D)
  | f :: fs, w :: ws, acc => pileD fs ws ((f, w) :: acc)
  | _, _, acc => acc
theorem pile_rep {K : PySem.W.Frag} {F : Addr → Prop} {H : Hp} : ∀ {fs : List Str} {ds : List D} {ws : List V} {a : List (Str × D)} {b : List (Str × V)}, RepL K F H ds ws → RepF K F H a b → RepF K F H (pileD fs ds a) (pileV fs ws b)
  | [], ds, ws, a, b, r, ra => by cases ds <;> cases ws <;> exact ra
  | f :: fs, [], ws, a, b, r, ra => by
    unfold RepL at r
    subst r
    exact ra
  | f :: fs, d :: ds, ws, a, b, r, ra => by
    unfold RepL at r
    obtain ⟨v, t, rfl, x, y⟩ := r
    have z : RepF K F H ((f, d) :: a) ((f, v) :: b) := by
      unfold RepF
      exact ⟨v, b, rfl, x, ra⟩
    exact pile_rep (fs := fs) y z
def spX (C : Addr) (fns : List Str) : Sp := fun vs H Q _ => ∃ a ws, vs = .ref a :: ws ∧ ws.length = fns.length ∧ H a = some (exo a C none) ∧ ∀ d, H d = none → d ≠ a → Q .non (upd (upd H d (exd d (pileV fns ws []))) a (exo a C (some d)))
/-- self.f = (the i-th slot), .. -/
def tIn (K : PySem.W.Frag) : List (Str × Nat) → TS
  | [] => tNext
  | (f, i) :: r => tSeq (tOst K f (tVar 0) (tVar i)) (tIn K r)
theorem upd2 {H : Hp} {a : Addr} {x y : HO} : upd (upd H a x) a y = upd H a y := by
  funext b
  by_cases h : b = a
  · subst h; rw [upd_same, upd_same]
  · rw [upd_ne h, upd_ne h, upd_ne h]
theorem upd_comm {H : Hp} {a b : Addr} {x y : HO} (h : a ≠ b) : upd (upd H a x) b y = upd (upd H b y) a x := by
  funext c
  by_cases h1 : c = a
  · subst h1; rw [upd_same, upd_ne h, upd_same]
  · by_cases h2 : c = b
    · subst h2; rw [upd_same, upd_ne h1, upd_same]
    · rw [upd_ne h2, upd_ne h1, upd_ne h1, upd_ne h2]
section
variable {K : PySem.W.Frag} {C : Addr}
theorem in_run (T : OexC K C) (hno : ∀ f, f ∈ ([] : List Str) → True) {a : Addr} {σ : L2.St} {D : Ends} : ∀ (l : List (Str × Nat)) (ws : List V) (H0 : Hp) (d : Addr) (acc : List (Str × V)), d ≠ a → (∀ p ∈ l, PySem.W.findIn K (.ref C) p.1 = some none) → acc.length + l.length ≤ 900 → σ[0]? = some (some (.ref a)) →
    (∀ (j : Nat) p w, l[j]? = some p → ws[j]? = some w → σ[p.2]? = some (some w)) → l.length = ws.length → D.nx σ (upd (upd H0 d (exd d (pileV (l.map (·.1)) ws acc))) a (exo a C (some d))) → tIn K l D σ (upd (upd H0 d (exd d acc)) a (exo a C (some d)))
  | [], ws, H0, d, acc, ne, hf, hl, h0, hw, e, q => by
    cases ws with
    | nil => exact q
    | cons => simp at e
  | p :: l, [], H0, d, acc, ne, hf, hl, h0, hw, e, q => by simp at e
  | p :: l, w :: ws, H0, d, acc, ne, hf, hl, h0, hw, e, q => by
    have s1 := hw 0 p w rfl rfl
    refine ⟨w, s1, .ref a, h0, a, C, rfl, T, hf p List.mem_cons_self, .inr ⟨d, acc, upd_same, by rw [upd_ne ne]; exact upd_same, by simp at hl; omega, ?_⟩⟩
    show tIn K l D σ _
    have e1 : upd (upd (upd H0 d (exd d acc)) a (exo a C (some d))) d (exd d ((p.1, w) :: acc)) = upd (upd H0 d (exd d ((p.1, w) :: acc))) a (exo a C (some d)) := by
      rw [upd_comm (Ne.symm ne), upd2]
    rw [e1]
    exact in_run T hno l ws H0 d _ ne (fun p hp => hf p (List.mem_cons_of_mem _ hp)) (by simp at hl ⊢; omega) h0 (fun j p' w' h1 h2 => hw (j + 1) p' w' (by simpa using h1) (by simpa using h2)) (by simpa using e) q
theorem in_start (T : OexC K C) {a : Addr} {σ : L2.St} {D : Ends} {H : Hp} {f0 : Str} {i0 : Nat} {l : List (Str × Nat)} {w0 : V} {ws : List V} (ha : H a = some (exo a C none)) (hf : ∀ p ∈ (f0, i0) :: l, PySem.W.findIn K (.ref C) p.1 = some none) (hl : l.length ≤ 800) (h0 : σ[0]? = some (some (.ref a)))
    (hw : ∀ (j : Nat) p w, ((f0, i0) :: l)[j]? = some p → (w0 :: ws)[j]? = some w → σ[p.2]? = some (some w)) (e : l.length = ws.length)
    (q : ∀ d, H d = none → d ≠ a → D.nx σ (upd (upd H d (exd d (pileV (((f0, i0) :: l).map (·.1)) (w0 :: ws) []))) a (exo a C (some d)))) : tIn K ((f0, i0) :: l) D σ H := by
  refine ⟨w0, hw 0 _ _ rfl rfl, .ref a, h0, a, C, rfl, T, hf (f0, i0) List.mem_cons_self, .inl ⟨ha, fun d hd ne => ?_⟩⟩
  show tIn K l D σ _
  exact in_run T (fun _ _ => trivial) l ws H d _ ne (fun p hp => hf p (List.mem_cons_of_mem _ hp)) (by simp; omega) h0 (fun j p w h1 h2 => hw (j + 1) p w (by simpa using h1) (by simpa using h2)) e (q d hd ne)
end
section
variable {P : Program} {w : World} {K : PySem.W.Frag} {mg : Str → Option Value} {base : Heap}
theorem fn_initX {C : Addr} (T : OexC K C) {x qual : Str} {st : Stmt} {f : Addr} {fd : FuncData} {N ps : List Str} {k : Nat} {l : List (Str × Nat)} (Fn : Fun K x qual st f fd) (S : FnScope N ps (defScope st)) (hl0 : l ≠ []) (hl : l.length ≤ 800) (hps : ps.length = l.length + 1) (hN : ps.length ≤ N.length)
    (hix : ∀ (j : Nat) p, l[j]? = some p → p.2 = j + 1) (hf : ∀ p ∈ l, PySem.W.findIn K (.ref C) p.1 = some none)
    (hb : ∀ (cdv : Value) (A : Around) (outer : List Env) (s : Shared) (H : Hp) (E : XK), Room k (A.deeper (envOfC qual (defScope st) s.heap.objs.size f cdv)) → PSs (cxOf (L2.CX P w) P w K mg base N qual (defScope st) f cdv A outer s H E) (defBody st) (tIn K l)) :
    FnOk P w K mg base (L2.CX P w) (k + 1) f fd ps (spX C (l.map (·.1))) := by
  refine Fn.okX S (fun vs H Q E h => ?_) fun cdv A outer s H vs Q E hr h => ⟨_, hb cdv A outer s H E hr, ?_⟩
  · obtain ⟨a, ws, rfl, hw, _⟩ := h
    rw [List.length_cons, hw, List.length_map, hps]
  · obtain ⟨a, ws, rfl, hw, ha, q⟩ := h
    cases l with
    | nil => exact absurd rfl hl0
    | cons p l =>
      obtain ⟨f0, i0⟩ := p
      cases ws with
      | nil => simp at hw
      | cons w0 ws =>
        have hlen : l.length = ws.length := by simpa using hw.symm
        have st : ∀ (j : Nat) (u : V), (V.ref a :: w0 :: ws)[j]? = some u → (L2.start N (V.ref a :: w0 :: ws))[j]? = some (some u) := fun j u e => by
          unfold L2.start
          rw [List.getElem?_append_left (by simpa using (List.getElem?_eq_some_iff.mp e).1), List.getElem?_map, e]
          rfl
        refine in_start T ha hf (by simp at hl; omega) (st 0 _ rfl) (fun j p w h1 h2 => ?_) hlen q
        rw [hix j p h1]
        exact st (j + 1) w (by simpa using h2)
end
/-! ### raise C(..) -/
def fItems : List (AK × M × D) → Option (List D)
  | [] => some []
  | (.k .t, .f, d) :: r => (fItems r).map (d :: ·)
  | _ => none
def raiseS (C : Addr) (fns : List Str) (Ts : List Sl → AO) : List Sl → SO := fun ρ => match Ts ρ with
  | .ok _ its ρ1 => (match fItems its with
    | some ds => if ds.length = fns.length ∧ ds.length ≤ 1000 then .ex C (pileD fns ds []) ρ1 else .no
    | none => .no)
  | .ex C fs ρ1 => .ex C fs ρ1
  | .no => .no
theorem fItems_rep {K : PySem.W.Frag} {G : Gh} {ρ : List Sl} {σ : L2.St} {H : Hp} {F : Addr → Prop} : ∀ {its : List (AK × M × D)} {ds : List D} {vs : List V} {st : List TI} {fp : Bool → Nat → List Addr}, fItems its = some ds → vs.length = its.length → EIF K G (stackA its vs st) ρ σ H F fp → RepL K F H ds vs
  | [], ds, vs, st, fp, h, hl, I => by
    cases h
    cases vs with
    | nil => unfold RepL; rfl
    | cons => simp at hl
  | (k, m, d) :: its, ds, vs, st, fp, h, hl, I => by
    cases vs with
    | nil => simp at hl
    | cons v vs =>
      unfold fItems at h
      split at h
      · rename_i eq
        cases eq
      · rename_i d' r eq
        cases eq
        obtain ⟨ds', e, rfl⟩ := Option.map_eq_some_iff.mp h
        have hl' : vs.length = its.length := by simpa using hl
        have I' : EIF K G (stackA its vs (.t .f d v :: st)) ρ σ H F fp := I
        obtain ⟨fp1, I1, _⟩ := EIF.popA (st := .t .f d v :: st) hl' I'
        unfold RepL
        exact ⟨v, vs, rfl, rep_f (I1.ti 0), fItems_rep e hl' I'⟩
      · cases h
section
variable {X : Cx} {W : WX} {C fI : Addr} {k : Nat} {fd : FuncData} {ps fns : List Str} {x : Str} {p pos pos2 : Pos} {e : Expr} {es : List Expr} {Ts : List Sl → AO}
theorem fs_raise (hc : X.calm = true) (tk : Takes X W) (T : OexC X.K C) (iC : PySem.W.findIn X.K (.ref C) "__init__" = some (some (.ref fI))) (tI : PySem.W.typeIn X.K (.ref fI) = some (.type "function"))
    (F1 : FnOk X.prog X.w X.K X.mg X.base (L2.CX X.prog X.w) k fI fd ps (spX C fns)) (hr : Room (k + 1) X.A) (hb : Binds X.K fd ps []) (hg : Gl X x) (hm : X.mg x = some (.ref C)) (ha : FA X W (e :: es) Ts)
    (hdb : (x == ("__debug__" : Str)) = false := by decide) (he : starEach (e :: es) X.env = (false, eval e X.env) :: starEach es X.env := by rfl) (hpl : (backTo pos (starEach es X.env)).any (·.1) = false := by rfl) :
    FS X W (.Raise (some (.Call (.Name x p) (e :: es) [] pos)) none pos2) (raiseS C fns Ts) := by
  have hx : Passes (L2.CX X.prog X.w) X (fun _ _ _ => False) := fun pins σ H s e s' I c => tk e s' (XE.of_call I (fun _ _ _ h => h.elim) c)
  refine PS.imp (ps_raise hc tk (pmk_oex (dvs := []) (ds := []) T iC tI F1 hr hb .nil hx hg hm ha hdb he hpl)) fun E σ H ⟨G, st, ρ, I, h⟩ => ⟨G, st, ρ, I, ?_⟩
  unfold raiseS at h
  cases et : Ts ρ with
  | no => rw [et] at h; exact h.elim
  | ex C fs ρ1 =>
    rw [et] at h
    exact (h σ).dead fun _ _ _ _ I => I.deadW
  | ok p its ρ1 =>
    rw [et] at h
    intro vs H1 hl I1
    rw [dims_id] at I1
    cases ef : fItems its with
    | none => simp only [ef] at h; exact h.elim
    | some ds =>
      simp only [ef] at h
      split at h
      case isFalse => exact h.elim
      rename_i hds
      obtain ⟨F, fp, I1⟩ := I1
      have rl := fItems_rep ef hl I1
      obtain ⟨fp1, I2, _⟩ := EIF.popA hl I1
      have hlen := rl.len
      refine ⟨by rw [← hlen]; exact hds.2, fun a haN => ⟨a, vs, by rw [List.append_nil], by rw [← hlen]; exact hds.1, upd_same, fun d hd ne => ?_⟩⟩
      rw [upd_ne ne] at hd
      refine ⟨rfl, d, pileV fns vs [], upd_same, by rw [upd_ne ne]; exact upd_same, hd, ?_⟩
      have e1 : upd (del (upd (upd (upd H1 a (exo a C none)) d (exd d (pileV fns vs []))) a (exo a C (some d))) a) d (.xd (pileV fns vs [])) = upd H1 d (.xd (pileV fns vs [])) := by
        funext b
        by_cases h1 : b = d
        · subst h1; rw [upd_same, upd_same]
        · rw [upd_ne h1, upd_ne h1]
          by_cases h2 : b = a
          · subst h2; rw [del_same]; exact haN.symm
          · rw [del_ne h2, upd_ne h2, upd_ne h1, upd_ne h2]
      rw [e1]
      have ext := Ext.putF (o := .xd (pileV fns vs [])) I2.lv hd
      have I3 := I2.dead.ext ext
      have pr : RepF X.K (Plus F [d]) (upd H1 d (.xd (pileV fns vs []))) (pileD fns ds []) (pileV fns vs []) := pile_rep (RepL.mono ext.more ext.stays _ _ rl) (by unfold RepF; rfl)
      refine h σ d (pileV fns vs []) _ ?_
      rw [dims_id]
      exact ⟨_, _, I3.push (t := .w (PX X.K (pileD fns ds []) d (pileV fns vs []))) (q := []) ⟨rfl, px_stab, .inr (by simp), upd_same, pr⟩ (fun a m => nomatch m) fun a m => nomatch m⟩
end
end FL

namespace FL
open PySem PySem.Spec PyProof.Rows L2
/-! ### try: .. except C as n: .. -/
def forgetO (i : Nat) : SO → SO
  | .nx ρ => .nx (wipeSl ρ [i])
  | .rt m d ρ => .rt m d (wipeSl ρ [i])
  | .bk ρ => .bk (wipeSl ρ [i])
  | .ct ρ => .ct (wipeSl ρ [i])
  | .ex _ _ _ => .no
  | .no => .no
def hndR (i : Nat) (ρ1 : List Sl) (a d C : Addr) (fs : List (Str × D)) : List Sl := (wipeSl ρ1 [i]).set i (.xn a d C fs)
open Classical in
noncomputable def hndS (i : Nat) (Us : Addr → Addr → Addr → List Sl → SO) (C : Addr) (fs : List (Str × D)) (ρ1 : List Sl) : SO :=
  if h : ∃ S, ∀ a d, forgetO i (Us a d C (hndR i ρ1 a d C fs)) = S then h.choose else .no
theorem hndS_eq {i : Nat} {Us : Addr → Addr → Addr → List Sl → SO} {C : Addr} {fs : List (Str × D)} {ρ1 : List Sl} {S : SO} (h : ∀ a d, forgetO i (Us a d C (hndR i ρ1 a d C fs)) = S) : hndS i Us C fs ρ1 = S := by
  have e : ∃ S, ∀ a d, forgetO i (Us a d C (hndR i ρ1 a d C fs)) = S := ⟨S, h⟩
  unfold hndS
  rw [dif_pos e, ← e.choose_spec 0 0, h 0 0]
theorem hndS_at {i : Nat} {Us : Addr → Addr → Addr → List Sl → SO} {C : Addr} {fs : List (Str × D)} {ρ1 : List Sl} (h : hndS i Us C fs ρ1 ≠ .no) (a d : Addr) : forgetO i (Us a d C (hndR i ρ1 a d C fs)) = hndS i Us C fs ρ1 := by
  unfold hndS at h ⊢
  split at h
  · rename_i e
    rw [dif_pos e]
    exact e.choose_spec a d
  · exact absurd rfl h
noncomputable def tryS (i : Nat) (ex : Addr → Option Bool) (T : List Sl → SO) (Us : Addr → Addr → Addr → List Sl → SO) : List Sl → SO := fun ρ => match T ρ with
  | .ex C fs ρ1 => (match ex C with
    | some true => if i < ρ1.length then hndS i Us C fs ρ1 else .no
    | some false => .ex C fs ρ1
    | none => .no)
  | s => s
section
variable {K : PySem.W.Frag} {W : WX} {G : Gh} {st st1 : List TI} {ρ : List Sl} {σ : L2.St} {H : Hp} {F : Addr → Prop} {fp : Bool → Nat → List Addr}
theorem EIF.fillX {i : Nat} {a d C : Addr} {fs : List (Str × D)} {gs : List (Str × V)} (I : EIF K G st ρ σ H F fp) (hi : ρ[i]? = some .no) (hv : σ[i]? = some (some (.ref a))) (r : PX K fs d gs F H) : EIF K G st (ρ.set i (.xn a d C fs)) σ H F fp := by
  have hlt := (List.getElem?_eq_some_iff.mp hi).1
  refine ⟨fun j => ?_, I.ti, I.nf, I.dj, I.keep, I.f0, I.fo, I.lv, by rw [List.length_set]; exact I.len⟩
  by_cases hj : j = i
  · subst hj
    have s := I.sl j
    rw [List.getD_eq_getElem?_getD, hi] at s
    have e : fp true j = [] := s
    rw [List.getD_eq_getElem?_getD, List.getElem?_set_self hlt, e]
    exact ⟨rfl, hv, gs, r⟩
  · rw [List.getD_eq_getElem?_getD, List.getElem?_set_ne (Ne.symm hj), ← List.getD_eq_getElem?_getD]
    exact I.sl j
theorem wipe1_at {i : Nat} (h : i < ρ.length) : (wipeSl ρ [i])[i]? = some .no := by
  unfold wipeSl
  rw [List.getElem?_mapIdx, List.getElem?_eq_getElem h]
  simp
theorem EI.forget {i : Nat} (I : EI K G (FL.dead st) ρ σ H) : EI K G (FL.dead st) (wipeSl ρ [i]) (σ.set i none) H :=
  EI.swap (vs := [i]) I (by simp) fun j hj => List.getElem?_set_ne (fun e => hj (by simp [e]))
end
section
variable {X : Cx} {Wout : WX} {x n : Str} {C0 : Addr} {c : Value} {i : Nat} {body suite : List Stmt} {b₀ : Stmt} {np pos pos' : Pos} {T : List Sl → SO} {Us : Addr → Addr → Addr → List Sl → SO} {ex : Addr → Option Bool}
theorem fs_try (hs : X.stack = X.env :: X.outer) (hf : X.env.frame = some X.env.locals) (hN : X.N.Nodup) (hi : X.N[i]? = some n) (hln : X.env.kindOf n = some .local) (hc : Names X x c) (tk : Takes X Wout) (hex : ∀ C b, ex C = some b → PySem.W.exmOne X.K (.ref C) c = some b)
    (hb : ∀ (W : WX) (pn : List (Addr × Obj)) (xe : Value → Shared → Prop), Takes (X.tr pn xe) W → PassesOwn (model X.prog X.w) X.A X.env xe → FSs (X.tr pn xe) W body T)
    (hsu : ∀ (a d C : Addr) (oe : Obj) (pn : List (Addr × Obj)), Zc (.ref C) (some d) oe → (∃ vs, oe.data = .fields vs) → FSs (X.suite a ((a, oe) :: pn)) W0 (b₀ :: suite) (Us a d C)) :
    FS X Wout (.Try body [.ExceptHandler (some (.Name x np)) (some n) (b₀ :: suite) pos'] [] [] pos) (tryS i ex T Us) := by
  refine PS.imp (ps_try_as (tb := fun W => tS X.K W T) (ts := fun a cls d D σ H => ∃ C dd, cls = .ref C ∧ d = some dd ∧ tS X.K W0 (Us a dd C) D σ H) hs hf hN hi hln hc tk hb (fun a oe cls d pn hz hv => ?_)) fun E σ H ⟨G, st, ρ, I, h⟩ => ⟨G, st, ρ, I, ?_⟩
  · refine ⟨fun pins s σ H D I q => ?_⟩
    obtain ⟨C, dd, rfl, rfl, q⟩ := q
    exact PSs.run (hsu a dd C oe pn hz hv) pins s σ H D I q
  · unfold tryS at h
    cases et : T ρ with
    | nx ρ1 => rw [et] at h; exact h
    | rt m d ρ1 => rw [et] at h; exact h
    | bk ρ1 => rw [et] at h; exact h
    | ct ρ1 => rw [et] at h; exact h
    | no => rw [et] at h; exact h
    | ex C fs ρ1 =>
      rw [et] at h
      dsimp only at h
      intro σ1 dd gs H1 I1
      cases ec : ex C with
      | none => rw [ec] at h; exact h.elim
      | some b =>
        refine ⟨b, hex C b ec, fun hb a ha => ?_, fun hb => ?_⟩
        · subst hb
          rw [ec] at h
          dsimp only at h
          split at h
          case isFalse => exact h.elim
          rename_i hlt
          refine ⟨C, dd, rfl, rfl, G, dead st, hndR i ρ1 a dd C fs, ?_, ?_⟩
          · rw [dims_id] at I1
            obtain ⟨F, fp, I1⟩ := I1
            have px := (I1.ti 0).2.2
            have I2 := I1.pop
            have I3 := I2.swap (σ' := σ1.set i (some (.ref a))) (vs := [i]) (by simp) fun j hj => List.getElem?_set_ne (fun e => hj (by simp [e]))
            exact ⟨F, _, I3.fillX (wipe1_at hlt) (by rw [List.getElem?_set_self (by rw [← I1.len]; exact hlt)]) px⟩
          · by_cases hno : hndS i Us C fs ρ1 = .no
            · rw [hno] at h; exact h.elim
            · have e := hndS_at hno a dd
              rw [← e] at h
              cases eu : Us a dd C (hndR i ρ1 a dd C fs) with
              | nx ρ2 =>
                rw [eu] at h
                intro σ2 H2 I2
                rw [deads_dead] at I2
                exact h _ _ I2.forget
              | bk ρ2 =>
                rw [eu] at h
                intro σ2 H2 I2
                rw [deads_dead] at I2
                exact h _ _ I2.forget
              | ct ρ2 =>
                rw [eu] at h
                intro σ2 H2 I2
                rw [deads_dead] at I2
                exact h _ _ I2.forget
              | rt m d ρ2 =>
                rw [eu] at h
                intro v σ2 H2 I2
                rw [deads_dead] at I2
                have I2 : EI X.K G (dead (.t m d v :: st)) ρ2 σ2 H2 := I2
                exact h v _ _ I2.forget
              | ex C' fs' ρ2 => rw [eu] at h; exact h.elim
              | no => rw [eu] at h; exact h.elim
        · subst hb
          rw [ec] at h
          exact h σ1 dd gs H1 I1
end
/-! ### n.f, n the exception that is held -/
def excE (i : Nat) (a d C : Addr) (ok : Addr → Bool) (f : Str) : List Sl → EO := fun ρ => match ρ[i]? with
  | some (.xn a' d' C' fs) => if a' = a ∧ d' = d ∧ C' = C ∧ ok C = true then .val true ρ ((fs.lookup f).map fun x => (.f, x)) else .no
  | _ => .no
/-- what the class must have to be read from -/
structure ExcT (K : PySem.W.Frag) (C : Addr) : Prop where
  ga : PySem.W.findIn K (.ref C) "__getattribute__" = some (some (.builtin "BaseException.__getattribute__"))
  gg : PySem.W.findIn K (.ref C) "__getattr__" = some none
  exC : PySem.W.subIn K (.ref C) (.type "BaseException") = some true
  hdC : PySem.W.hasDictIn K C = true
section
variable {X : Cx} {W : WX} {C : Addr} {i : Nat} {e : Expr} {f : Str} {pos : Pos} {a d : Addr} {oe : Obj} {pn : List (Addr × Obj)}
theorem pe_excF {te : TE} (T : ExcT X.K C) (noN : PySem.W.findIn X.K (.ref C) f = some none) (hz : Zc (.ref C) (some d) oe) (hf : ∃ vs, oe.data = .fields vs) (he : PE (X.suite a ((a, oe) :: pn)) e te) (hb : attributeBase e f X.env (eval e X.env) = eval e X.env := by rfl) :
    PE (X.suite a ((a, oe) :: pn)) (.Attribute e f pos) (fun σ H Q => te σ H fun x H1 => x = .ref a ∧ ∃ gs v, H1 d = some (.xd gs) ∧ gs.lookup f = some v ∧ Q v H1) := by
  refine ⟨fun pins s σ H Q I h => ?_⟩
  refine attr_of hb (thn (he.run pins s σ H _ I h) fun u s1 hh => ?_)
  obtain ⟨x, H1, I1, rx, ex, gs, v, ea, l, q⟩ := hh
  subst ex
  obtain rfl : u = Value.ref a := rx
  obtain ⟨ha, _⟩ := I1.pin (a, oe) (List.mem_append_left _ List.mem_cons_self)
  obtain ⟨vs, hd⟩ := hf
  have hx : ObjOk X.prog X.w H1 s1.heap d (.xd gs) := I1.hok d _ ea
  obtain ⟨mA, hns, hr⟩ := hx
  obtain ⟨od, ho, hl⟩ := lookIn_ns hns
  obtain ⟨u, hu, ru⟩ := RelO.some_of (v := v) (o := mA f) (by rw [← l]; exact hr f)
  have J : PySem.W.InstAt s1.heap a oe C (some od) := ⟨ha, hz.1, by unfold PySem.W.notCls; rw [hd] <;> rfl, by rw [hz.2]; exact ho⟩
  exact HandSPX.exc_get I1.kIn J T.ga T.gg T.exC (PySem.W.findObj_own T.hdC noN rfl (by rw [hl, hu])) (handed_of ru) ⟨v, H1, I1.tok _, ru, q⟩
theorem fe_excF {ok : Addr → Bool} (hok : ∀ C, ok C = true → ExcT X.K C ∧ PySem.W.findIn X.K (.ref C) f = some none) (hz : Zc (.ref C) (some d) oe) (hf : ∃ vs, oe.data = .fields vs) (he : PE (X.suite a ((a, oe) :: pn)) e (tVar i)) (hb : attributeBase e f X.env (eval e X.env) = eval e X.env := by rfl) :
    FE (X.suite a ((a, oe) :: pn)) W (.Attribute e f pos) (excE i a d C ok f) := by
  by_cases hC : ok C = true
  case neg =>
    refine ⟨fun pins s σ H Q J q => ?_⟩
    obtain ⟨G, st, ρ, I, h⟩ := q
    unfold excE at h
    split at h
    · rw [if_neg (fun z => hC z.2.2.2)] at h
      exact h.elim
    · exact h.elim
  refine PE.imp (pe_excF (hok C hC).1 (hok C hC).2 hz hf he hb) fun σ H Q ⟨G, st, ρ, I, h⟩ => ?_
  unfold excE at h
  split at h
  case h_2 => exact h.elim
  rename_i a' d' C' fs e1
  split at h
  case isFalse => exact h.elim
  rename_i hc
  obtain ⟨rfl, rfl, rfl, _⟩ := hc
  obtain ⟨m', dd, e2, h⟩ := val_aft h
  obtain ⟨x, ex, e2⟩ := Option.map_eq_some_iff.mp e2
  cases e2
  obtain ⟨F, fp, I⟩ := I
  have s := I.sl i
  rw [List.getD_eq_getElem?_getD, e1] at s
  obtain ⟨_, hv, gs, fd', hd, rf⟩ := s
  obtain ⟨v, lv, rv⟩ := rf.lookup ex
  refine ⟨.ref a', hv, rfl, gs, v, hd, lv, h v H ?_⟩
  rw [dims_id]
  exact I.pushRep rv
end
end FL

namespace FL
open PySem PySem.Spec PyProof.Rows L2
/-! ### x[k] op= e of a list -/
def rGetL (K : PySem.W.Frag) : R2 := fun x y H Q => ∃ p xs i v, x = .ref p ∧ y = .int i ∧ SqL K H p xs ∧ atI xs i = some v ∧ Q v H
theorem get_list {X : Cx} : PGet X (rGetL X.K) := by
  intro pins s σ H x y v u Q I rx ry h
  obtain ⟨p, xs, i, z, rfl, rfl, hq, he, q⟩ := h
  cases rx
  obtain ⟨t, rfl⟩ := ry
  obtain ⟨its, r, pl, hz⟩ := I.list hq
  obtain ⟨j, h1, h2, h3, h4, h5⟩ := atI_get he
  obtain ⟨w, ew, rw'⟩ := r.get h2
  have hl := r.length
  have hn := line63
  have fin : EP X pins σ Q w s := ⟨z, H, I, rw', q⟩
  by_cases h0 : 0 ≤ i
  · have hj : i.toNat = j := by
      rw [seqIndex_of h0 h5] at h1
      exact Option.some.inj h1
    exact wpAny_getItem_list pl.isList h0 (by omega) (by rw [hj]; simpa using ew) fin
  · have hj : (i + (its.toArray.size : Int)).toNat = j := by
      rw [seqIndex_neg (by omega) h4] at h1
      rw [List.size_toArray, ← hl]
      exact Option.some.inj h1
    exact wpAny_getItem_list_neg pl.isList (by omega) (by rw [List.size_toArray] <;> omega) (by omega) (by rw [hj]; simpa using ew) fin
def augIxS (i : Nat) (g : M × D → M × D → Option (M × D)) (Tk Te : List Sl → EO) : List Sl → SO := fun ρ => if (slotAt ρ i).isSome then (Tk ρ).bindS fun _ k m kd ρ1 => (match k, m, ρ1[i]? with
    | .t, .f, some (.va _ (.o .f) (.lst ds)) => (match (inD (.f, kd)).bind (atI ds) with
      | some x => (Te ρ1).bindS fun _ k2 m2 d ρ2 => (match k2, m2, g (.f, x) (.f, d) with
        | .t, .f, some (.f, d2) => (match putIx ρ2 i kd d2 with
          | some ρ3 => .nx ρ3
          | none => .no)
        | _, _, _ => .no)
      | none => .no)
    | _, _, _ => .no) else .no
section
variable {X : Cx} {W : WX} {i k : Nat} {o ie e : Expr} {Tk Te : List Sl → EO} {pos tpos : Pos} {op : Operator} {g : M × D → M × D → Option (M × D)}
theorem fs_augIx (hu : X.A.units + 65 < cLine) (ha : AugF X op g) (ho : PE X o (tVar i)) (hk : FE X W ie Tk) (he : FE X W e Te)
    (hst : ∀ ov iv new, augStore ie ov iv new = (do holding [new, ov, iv] (setItem ov iv new); release [new, ov, iv] []; pure .next) := by intros; rfl) : FS X W (.AugAssign (.Subscript o ie tpos) op e pos) (augIxS i g Tk Te) := by
  obtain ⟨ti, hp, hm⟩ := ha.ex
  refine PS.imp (ps_augS ho hk get_list he hp (set_u (by omega)) hst) fun E σ H ⟨G, st, ρ, I, h⟩ => ?_
  unfold augIxS at h
  split at h
  case isFalse => exact h.elim
  rename_i hsome
  obtain ⟨r0, er0⟩ := Option.isSome_iff_exists.mp hsome
  obtain ⟨F0, fp0, J0⟩ := id I
  obtain ⟨ov, eo, _⟩ := J0.slot (k := i) (m := r0.1) (d := r0.2) er0
  refine ⟨ov, eo, G, st, ρ, I, Aft.bindS h fun p1 k1 m1 kd ρ1 ex1 h kv H1 I1 => ?_⟩
  rw [dims_id] at I1
  split at h
  case h_2 => exact h.elim
  rename_i q ds e1
  cases ex : (inD (.f, kd)).bind (atI ds) with
  | none => rw [ex] at h; exact h.elim
  | some x =>
    rw [ex] at h
    dsimp only at h
    obtain ⟨n, en, ex⟩ := Option.bind_eq_some_iff.mp ex
    obtain ⟨F1, fp1, J1⟩ := id I1
    have J1 : EIF X.K G (.t .f kd kv :: st) ρ1 σ H1 F1 fp1 := J1
    have rk := rep_f (J1.ti 0)
    have ekv : kv = .int n := inD_rep (a := (.f, kd)) (q := []) en (K := X.K) (F := F1) (H := H1) (v := kv) (by unfold RepO; exact ⟨rfl, rk⟩)
    obtain ⟨l, vs, el, hl, rl, _⟩ := J1.setLst e1
    rw [eo] at el
    cases el
    obtain ⟨v, ev, rv⟩ := atI_rep rl ex
    refine ⟨l, vs, n, v, rfl, ekv, .inl (.inl hl), ev, ?_⟩
    have I2 : EI X.K G (.t .f x v :: .t .f kd kv :: st) ρ1 σ H1 := J1.pushRep rv
    refine ⟨G, _, ρ1, I2, ?_⟩
    have h' := AftS.cons (t := .t .f x v) (AftS.cons (t := .t .f kd kv) h)
    refine Aft.bindS h' fun p2 k2 m2 d ρ2 ex2 h2 w H2 I3 => ?_
    rw [dims_id] at I3
    split at h2
    case h_2 => exact h2.elim
    rename_i d2 e2
    cases ep : putIx ρ2 i kd d2 with
    | none => rw [ep] at h2; exact h2.elim
    | some ρ3 =>
      rw [ep] at h2
      obtain ⟨F2, fp2, I3⟩ := I3
      have I3 : EIF X.K G (.t .f d w :: .t .f x v :: .t .f kd kv :: st) ρ2 σ H2 F2 fp2 := I3
      refine hm F2 H2 v w (.f, x) (.f, d) _ _ .f d2 _ I3.lv (I3.ti 1) (I3.ti 0) e2 ?_
      refine EIF.hands (G := G) (ρ := ρ2) (σ := σ) I3.pop fun z H3 I4 => ?_
      obtain ⟨F3, fp3, I4⟩ := I4
      have I4 : EIF X.K G (.t .f d2 z :: .t .f x v :: .t .f kd kv :: st) ρ2 σ H3 F3 fp3 := I4
      have rz := rep_f (I4.ti 0)
      have rk3 := rep_f (I4.ti 2)
      exact putIx_ok I4.pop ep eo rk3 rz fun H' I5 => h2 σ H' I5.dead
end
/-! ### sorted(..) of texts: a list, a dict's keys, a text -/
def leS (a b : Str) : Bool := !ltCps b.cps.toList a.cps.toList
def insS (x : Str) : List Str → List Str
  | [] => [x]
  | y :: r => if leS x y then x :: y :: r else y :: insS x r
def sortS : List Str → List Str
  | [] => []
  | x :: r => insS x (sortS r)
theorem leS_iff {a b : Str} : leS a b = true ↔ ¬ (b.cps.toList < a.cps.toList) := by
  unfold leS
  rw [ltCps_eq]
  simp
theorem cps_inj {a b : Str} (h : a.cps.toList = b.cps.toList) : a = b := by
  cases a
  cases b
  congr 1
  simpa using h
theorem leS_anti {a b : Str} (h1 : leS a b = true) (h2 : leS b a = true) : a = b := by
  rw [leS_iff] at h1 h2
  exact cps_inj (List.le_antisymm (List.not_lt.mp h1) (List.not_lt.mp h2))
theorem leS_total {a b : Str} (h : ¬ leS a b = true) : leS b a = true := by
  rw [leS_iff] at h ⊢
  have h : b.cps.toList < a.cps.toList := Decidable.not_not.mp h
  exact List.lt_asymm h
theorem leS_trans {a b c : Str} (h1 : leS a b = true) (h2 : leS b c = true) : leS a c = true := by
  rw [leS_iff] at h1 h2 ⊢
  exact List.not_lt.mpr (List.le_trans (List.not_lt.mp h1) (List.not_lt.mp h2))
theorem insS_perm (x : Str) : ∀ l : List Str, (insS x l).Perm (x :: l)
  | [] => List.Perm.refl _
  | y :: r => by
    unfold insS
    split
    · exact List.Perm.refl _
    · exact ((insS_perm x r).cons y).trans (List.Perm.swap x y r)
theorem sortS_perm : ∀ l : List Str, (sortS l).Perm l
  | [] => List.Perm.refl _
  | x :: r => (insS_perm x _).trans ((sortS_perm r).cons x)
theorem insS_pw (x : Str) : ∀ l : List Str, l.Pairwise (fun a b => leS a b = true) → (insS x l).Pairwise (fun a b => leS a b = true)
  | [], _ => by simp [insS]
  | y :: r, h => by
    unfold insS
    have ⟨h1, h2⟩ := List.pairwise_cons.mp h
    split
    · rename_i c
      refine List.pairwise_cons.mpr ⟨fun z hz => ?_, h⟩
      rcases List.mem_cons.mp hz with rfl | hz
      · exact c
      · exact leS_trans c (h1 z hz)
    · rename_i c
      refine List.pairwise_cons.mpr ⟨fun z hz => ?_, insS_pw x r h2⟩
      rcases List.mem_cons.mp ((insS_perm x r).mem_iff.mp hz) with rfl | hz
      · exact leS_total c
      · exact h1 z hz
theorem sortS_pw : ∀ l : List Str, (sortS l).Pairwise (fun a b => leS a b = true)
  | [] => by simp [sortS]
  | x :: r => insS_pw x _ (sortS_pw r)
theorem rising_pw : ∀ (r : List Str) (p : Str), risingS p r = true → (p :: r).Pairwise (fun a b => leS a b = true)
  | [], p, _ => by simp
  | x :: r, p, h => by
    unfold risingS at h
    rw [Bool.and_eq_true] at h
    have ih := rising_pw r x h.2
    refine List.pairwise_cons.mpr ⟨fun z hz => ?_, ih⟩
    rcases List.mem_cons.mp hz with rfl | hz
    · exact h.1
    · exact leS_trans h.1 ((List.pairwise_cons.mp ih).1 z hz)
theorem sorted_is {ys xs : List Str} (h : ys.Perm xs) (s : sortedS ys = true) : ys = sortS xs := by
  have pw : ys.Pairwise (fun a b => leS a b = true) := by
    cases ys with
    | nil => simp
    | cons y r => exact rising_pw r y s
  exact List.Perm.eq_of_pairwise (fun a b _ _ h1 h2 => leS_anti h1 h2) pw (sortS_pw xs) (h.trans (sortS_perm xs).symm)
theorem RepL.strs {K : PySem.W.Frag} {F : Addr → Prop} {H : Hp} : ∀ xs : List Str, RepL K F H (xs.map D.str) (xs.map V.str)
  | [] => by unfold RepL; rfl
  | x :: xs => by
    show RepL K F H (.str x :: xs.map D.str) (.str x :: xs.map V.str)
    unfold RepL
    exact ⟨_, _, rfl, by unfold Rep; rfl, RepL.strs xs⟩
def lt64 (n : Nat) : Bool := decide (n < 64)
def srtL := on1 lsD fun ds => (strsD ds).bind fun xs => newL (lt64 xs.length) ((sortS xs).map .str)
def srtK := on1 dcD fun kvs => (strsD (kvs.map (·.1))).bind fun xs => newL (lt64 xs.length) ((sortS xs).map .str)
def srtS := on1 stD fun z => newL (lt64 z.length) ((sortS (z.cps.toList.map fun c => (⟨#[c]⟩ : Str))).map .str)
theorem call_sortedStr {X : Cx} (hcalm : X.calm = true) : CallR X (.builtin "sorted") (fun xs H Q => ∃ z : Str, xs = [.str z] ∧ z.length < 64 ∧ ∀ ys p, ys.Perm (z.cps.toList.map fun c => (⟨#[c]⟩ : Str)) → sortedS ys = true → H p = none → Q (.ref p) (upd H p (.lst (ys.map V.str)))) := by
  intro pins s σ H xs us Q I r q
  obtain ⟨z, ex, h64, q⟩ := q
  subst ex
  obtain ⟨u, rfl, t, rfl⟩ := vals1 r
  have hsz : z.cps.size ≤ sizeLine := by rw [sizeLine_eq]; have : z.cps.size < 64 := h64; omega
  refine Calls.call_function_entry PyProof.Rows.kind_sorted PyProof.Rows.plain_sorted PyProof.Rows.entry_sorted (PyProof.Rows.args_sorted1 _) ?_
  unfold Builtin.«sorted»
  refine wpAny_bind (m := checkCount "sorted" 1 1 _) (wpAny_pure ?_)
  refine wpAny_bind (wpAny_collect_str (A := X.A.in1) (show X.A.in1.handled = none from I.ok.hd hcalm) z t (fun s' acc hk hg hd ho hacc => ?_) hsz)
  obtain ⟨h', g', d', tk, os'⟩ := s'
  have hg : g' = s.gens := hg
  have hd : d' = s.drawn := hd
  have ho : os' = s.os := ho
  subst hg hd ho
  generalize hks : (z.cps.toList.map fun c => (⟨#[c]⟩ : Str)) = ks at q
  have hal : acc.toList.length = ks.length := by rw [Array.length_toList, hacc.1, ← hks]; simp
  have hkl : ks.length < 64 := by rw [← hks, List.length_map, Array.length_toList]; exact h64
  have hS : StrsAre acc.toList ks := strs_at hal fun j v e => by
    obtain ⟨c, t', e1, e2⟩ := hacc.2 j v (by rw [← Array.getElem?_toList]; exact e)
    exact ⟨⟨#[c]⟩, t', by rw [← hks, List.getElem?_map, Array.getElem?_toList, e1]; rfl, e2⟩
  have I1 : Inv X pins σ H { s with heap := h', toks := tk } := I.kept hk
  refine wpAny_bind (wpAny_newList ?_ (by rw [hal, sizeLine_eq]; omega))
  have hoL : (h'.push (seqObj "list" acc.toList.toArray 0)).get? h'.objs.size = some (seqObj "list" acc.toList.toArray 0) := Heap.get?_push_size _ rfl
  show wpAny _ _ _ _ _ { s with heap := h'.push (seqObj "list" acc.toList.toArray 0), toks := tk }
  refine wpAny_bind (wpAny_holding (wpAny_call_entry PyProof.Rows.slot_list_sort ⟨_, hoL, rfl⟩ PyProof.Rows.entry_list_sort
    (list_sort_treeK strKind_oneLt (s := { s with heap := h'.push (seqObj "list" acc.toList.toArray 0), toks := tk }) hoL hS.keysOf (fun v₁ v₂ rest e => keyKind_strs (by rw [← e]; exact hS)) (by rw [hal]; exact hkl) fun st' hp hs => ⟨_, rfl, ?_⟩)
    (PyProof.Rows.args_list_sort _)))
  obtain ⟨ys, g1, g2, g3⟩ := sorted_out_str hS hp hs
  obtain ⟨e', he'⟩ := PyProof.Rows.sortedHeap_at (vs := acc.toList) (out := (arrOf st').map (·.2)) hoL
  have hlen : (ys.map V.str).length ≤ sizeLine := by
    rw [List.length_map, g2.length_eq]
    exact Nat.le_trans (Nat.le_of_lt hkl) (by decide)
  refine wpAny_pure ⟨_, rfl, .ref h'.objs.size, upd H h'.objs.size (.lst (ys.map V.str)), I1.laid (t' := tk) (fun b u e => ?_) (Nat.le_refl _)
    (show ObjOk X.prog X.w _ _ _ (.lst (ys.map V.str)) from ⟨hlen, ((arrOf st').map (·.2)).toList, e', vals_of_strs g1, by rw [Array.toArray_toList]; exact he'⟩), rfl, q ys _ g2 g3 (I1.hok.fresh (Nat.le_refl _))⟩
  have hb : b < h'.objs.size := Heap.lt_size e
  rw [PyProof.Rows.sortedHeap_old (Nat.ne_of_lt hb) (by rw [size_push']; exact Nat.lt_succ_of_lt hb)]
  exact Heap.get?_push_of_some _ e
def sortedD := orA srtL (orA srtK srtS)
theorem b_sorted {X : Cx} (hc : X.calm = true) : CallF X (.builtin "sorted") sortedD := by
  refine CallF.or ⟨_, cr_sortedS, fun F H vs as m d Q lv ra e k => ?_⟩ (CallF.or ⟨_, call_sortedD hc, fun F H vs as m d Q lv ra e k => ?_⟩ ⟨_, call_sortedStr hc, fun F H vs as m d Q lv ra e k => ?_⟩)
  · obtain ⟨a, ds, rfl, ha, e⟩ := on1_some e
    obtain ⟨xs, ex, e⟩ := Option.bind_eq_some_iff.mp e
    obtain ⟨h1, e⟩ := newL_some e
    cases e
    obtain ⟨v, q, rfl, r⟩ := rep1 ra
    obtain ⟨p, ws, rfl, s1, r1⟩ := lsD_rep ha r
    rw [strsD_rep ex r1] at s1
    exact ⟨p, xs, rfl, s1, of_decide_eq_true h1, fun ys z hp hs hz => by
      rw [sorted_is hp hs]
      exact hands_lst lv hz (RepL.strs _) k⟩
  · obtain ⟨a, kvs, rfl, ha, e⟩ := on1_some e
    obtain ⟨xs, ex, e⟩ := Option.bind_eq_some_iff.mp e
    obtain ⟨h1, e⟩ := newL_some e
    cases e
    obtain ⟨v, q, rfl, r⟩ := rep1 ra
    obtain ⟨p, gs, rfl, s1, r1⟩ := dcD_rep ha r
    have keys := strsD_rep ex r1.keysL
    have hk : gs.map (·.1) = xs.map Sum.inr := by
      have inj : ∀ (l : List Key) (m : List Str), l.map kV = m.map V.str → l = m.map Sum.inr := by
        intro l
        induction l with
        | nil => intro m e; cases m with | nil => rfl | cons => simp at e
        | cons a l ih =>
          intro m e
          cases m with
          | nil => simp at e
          | cons b m =>
            simp only [List.map_cons, List.cons.injEq] at e
            rw [List.map_cons, ih m e.2]
            congr 1
            cases a with
            | inl i => cases e.1
            | inr x => have : V.str x = V.str b := e.1; cases this; rfl
      exact inj _ _ (by rw [List.map_map]; exact keys)
    exact ⟨p, gs, xs, rfl, s1, hk, of_decide_eq_true h1, fun ys z hp hs hz => by
      rw [sorted_is hp hs]
      exact hands_lst lv hz (RepL.strs _) k⟩
  · obtain ⟨a, z, rfl, ha, e⟩ := on1_some e
    obtain ⟨h1, e⟩ := newL_some e
    cases e
    obtain ⟨v, q, rfl, r⟩ := rep1 ra
    exact ⟨z, by rw [stD_rep ha r], of_decide_eq_true h1, fun ys p hp hs hz => by
      rw [sorted_is hp hs]
      exact hands_lst lv hz (RepL.strs _) k⟩
end FL

namespace FL
open PySem PySem.Spec PyProof.Rows L2
section
variable {X : Cx} {W : WX} {pos : Pos} {jj : Option Nat}
theorem fe_str {z : Str} {j} : FE X W (.Constant (.str z) j pos) (konst (.str z)) := fe_const pe_str fun F H => by unfold Rep; rfl
theorem fe_int {i : Int} {j} : FE X W (.Constant (.int i) j pos) (konst (.int i)) := fe_const pe_int fun F H => by unfold Rep; rfl
theorem fe_bl {b : Bool} {j} : FE X W (.Constant (.bool b) j pos) (konst (.bl b)) := fe_const pe_bl fun F H => by unfold Rep; rfl
theorem fe_non {j} : FE X W (.Constant .none j pos) (konst .non) := fe_const pe_non fun F H => by unfold Rep; rfl
theorem fe_neg {e : Expr} {T : List Sl → EO} (he : FE X W e T) (hu : PE X (.UnaryOp .USub e pos) (tUn (rU fun i => .int (-i)) (tE X.K W T))) : FE X W (.UnaryOp .USub e pos) (use1 (fun a => (inD a).map fun i => (.f, .int (-i))) T) :=
  fe_use1 (fun F H x a q m d Q lv r e k => by
    obtain ⟨i, hi, e⟩ := Option.map_eq_some_iff.mp e
    cases e
    exact ⟨i, inD_rep hi r, k.int lv⟩) hu
theorem fe_gstr {x : Str} {z : Str} (hm : ∃ t, X.mg x = some (.str z t)) (hg : Gl X x) (hd : (x == ("__debug__" : Str)) = false := by decide) : FE X W (.Name x pos) (konst (.str z)) := by
  obtain ⟨t, hm⟩ := hm
  exact fe_const (pe_glob hg hm (v := .str z) ⟨t, rfl⟩ hd) fun F H => by unfold Rep; rfl
theorem fe_gint {x : Str} {z : Int} (hm : ∃ t, X.mg x = some (.int z t)) (hg : Gl X x) (hd : (x == ("__debug__" : Str)) = false := by decide) : FE X W (.Name x pos) (konst (.int z)) := by
  obtain ⟨t, hm⟩ := hm
  exact fe_const (pe_glob hg hm (v := .int z) ⟨t, rfl⟩ hd) fun F H => by unfold Rep; rfl
/-- a truth by a value -/
theorem ft_val {e : Expr} {T : List Sl → EO} (h : FE X W e T) (he : ∀ whole, isTrue e X.env whole = (do let v ← whole; standAt e.pos; holding [v] (truthy v)) := by intro _; rfl) : FT X W e (tru T) := ft_tru h he
theorem fe_tup0 {x1} : FE X W (.Tuple [] x1 pos) (useA tupD nilA) := fe_tup fa_nil
end
section
variable {X : Cx} {W : WX} {e : Expr} {T : List Sl → EO} {p pos p2 p3 p4 : Pos} {own : Addr → Option Bool} {x1 : _}
theorem kit_any {K : PySem.W.Frag} {t : String} (ht : t ∈ tyNames) : ∀ (ns : List String), (∀ n ∈ ns, n ∈ tyNames) → PySem.W.kitAny K (.type t) (ns.map Value.type) = some (ns.any (tyIs t))
  | [], _ => rfl
  | n :: ns, h => by
    rw [List.map_cons, List.any_cons]
    unfold PySem.W.kitAny
    rw [kit_tyIs ht (h n List.mem_cons_self)]
    cases tyIs t n with
    | true => rfl
    | false => exact kit_any ht ns fun m hm => h m (List.mem_cons_of_mem _ hm)
theorem kit_anyC {K : PySem.W.Frag} {C : Addr} {b : Bool} : ∀ (ns : List String), b = false → (∀ n ∈ ns, PySem.W.kitOne K (.ref C) (.type n) = some b) → PySem.W.kitAny K (.ref C) (ns.map Value.type) = some false
  | [], _, _ => rfl
  | n :: ns, hb, h => by
    rw [List.map_cons]
    unfold PySem.W.kitAny
    rw [h n List.mem_cons_self, hb]
    exact kit_anyC ns hb fun m hm => h m (List.mem_cons_of_mem _ hm)
/-- isinstance(x, (T, U)), T and U built in; own classes are neither -/
theorem fe_isiTU {n1 n2 : Str} {m1 m2 : String} {r1 r2 : Value} {kk : _} (hr1 : r1 = .type m1) (hr2 : r2 = .type m2) (hn1 : m1 ∈ tyNames) (hn2 : m2 ∈ tyNames) (hown : ∀ C b, own C = some b → b = false ∧ ClsT X.K C ∧ PySem.W.kitOne X.K (.ref C) (.type m1) = some false ∧ PySem.W.kitOne X.K (.ref C) (.type m2) = some false)
    (hg : Gl X "isinstance") (hm : X.mg "isinstance" = none) (hg1 : Gl X n1) (hm1 : X.mg n1 = none) (hv1 : bootBuiltins n1 = some r1) (hg2 : Gl X n2) (hm2 : X.mg n2 = none) (hv2 : bootBuiltins n2 = some r2) (he : FE X W e T)
    (hnn1 : n1 ≠ "__name__" := by decide) (hnd1 : (n1 == ("__debug__" : Str)) = false := by decide) (hnn2 : n2 ≠ "__name__" := by decide) (hnd2 : (n2 == ("__debug__" : Str)) = false := by decide)
    (hs : starEach [e, .Tuple [.Name n1 p2, .Name n2 p3] kk p4] X.env = (false, eval e X.env) :: starEach [.Tuple [.Name n1 p2, .Name n2 p3] kk p4] X.env := by rfl) (hs2 : starEach [.Tuple [.Name n1 p2, .Name n2 p3] kk p4] X.env = (false, eval (.Tuple [.Name n1 p2, .Name n2 p3] kk p4) X.env) :: starEach [] X.env := by rfl)
    (hs3 : starEach [.Name n1 p2, .Name n2 p3] X.env = (false, eval (.Name n1 p2) X.env) :: starEach [.Name n2 p3] X.env := by rfl) (hs4 : starEach [.Name n2 p3] X.env = (false, eval (.Name n2 p3) X.env) :: starEach [] X.env := by rfl)
    (hpl : (backTo pos (starEach [.Tuple [.Name n1 p2, .Name n2 p3] kk p4] X.env)).any (·.1) = false := by rfl) (hbt : bootBuiltins "isinstance" = some (.builtin "isinstance") := by decide +kernel) :
    FE X W (.Call (.Name "isinstance" p) [e, .Tuple [.Name n1 p2, .Name n2 p3] kk p4] [] pos) (use1 (isiO [m1, m2] own) T) := by
  subst hr1
  subst hr2
  have ht : PE X (.Tuple [.Name n1 p2, .Name n2 p3] kk p4) (fun σ H Q => ([V.ty m1, V.ty m2].length ≤ sizeLine ∧ ∀ p, H p = none → Q (.ref p) (upd H p (.tup [.ty m1, .ty m2])))) :=
    pe_tup (pa_cons (pe_bltn hg1 hm1 hv1 (v := .ty m1) rfl hnn1 hnd1) (pa_cons (pe_bltn hg2 hm2 hv2 (v := .ty m2) rfl hnn2 hnd2) pa_nil hs4) hs3)
  have hpa : PA X [e, .Tuple [.Name n1 p2, .Name n2 p3] kk p4] (fun σ H Q => tE X.K W T σ H fun x H1 => ([V.ty m1, V.ty m2].length ≤ sizeLine ∧ ∀ p, H1 p = none → Q [x, .ref p] (upd H1 p (.tup [.ty m1, .ty m2])))) := pa_cons he (pa_cons ht pa_nil hs2) hs
  refine fe_use1 (r := fun x H Q => [V.ty m1, V.ty m2].length ≤ sizeLine ∧ ∀ p, H p = none → rIsiT X.K [x, .ref p] (upd H p (.tup [.ty m1, .ty m2])) Q) (fun F H x a q m d Q lv r ea k => ?_) (pe_callB call_isiT hg hm hbt hpa (by decide) (by decide) hs hpl)
  refine ⟨by rw [sizeLine_eq]; show 2 ≤ 16777216; decide, fun z hz => ?_⟩
  have ext := Ext.put (o := .tup [V.ty m1, V.ty m2]) lv hz
  have r' := RepO.ext r ext
  have k' : ∀ b, d = .bl b → m = .f → Q (.bl b) (upd H z (.tup [.ty m1, .ty m2])) := fun b e1 e2 => by
    subst e1
    subst e2
    exact k (.bl b) _ F [] ext (by unfold RepO Rep; exact ⟨rfl, rfl⟩) fun a m => nomatch m
  unfold isiO at ea
  split at ea
  · rename_i t et
    cases ea
    refine ⟨x, z, _, _, _, _, rfl, upd_same, .cons (.ty m1) (.cons (.ty m2) .nil), tyN_ok et r', kit_any (tyN_in et) [m1, m2] (fun n hn => ?_), k' _ rfl rfl⟩
    rcases List.mem_cons.mp hn with rfl | hn
    · exact hn1
    · rw [List.mem_singleton.mp hn]; exact hn2
  · obtain ⟨⟨C, fs⟩, ec, ea⟩ := Option.bind_eq_some_iff.mp ea
    obtain ⟨b, eb, ea⟩ := Option.map_eq_some_iff.mp ea
    cases ea
    obtain ⟨h0, h1, h2, h3⟩ := hown C b eb
    subst h0
    refine ⟨x, z, _, _, _, _, rfl, upd_same, .cons (.ty m1) (.cons (.ty m2) .nil), obD_ok ec r' h1, kit_anyC (b := false) [m1, m2] rfl (fun n hn => ?_), k' _ rfl rfl⟩
    rcases List.mem_cons.mp hn with rfl | hn
    · exact h2
    · rw [List.mem_singleton.mp hn]; exact h3
end
end FL

namespace FL
open PySem PySem.Spec PyProof.Rows L2
section
variable {X : Cx} {W : WX} {e : Expr} {T : List Sl → EO} {pos : Pos}
def negD : M × D → Option (M × D) := fun a => (inD a).map fun i => (.f, .int (-i))
theorem fe_negD (he : FE X W e T) : FE X W (.UnaryOp .USub e pos) (use1 negD T) :=
  fe_use1 (fun F H x a q m d Q lv r e k => by
    obtain ⟨i, hi, e⟩ := Option.map_eq_some_iff.mp e
    cases e
    exact ⟨i, inD_rep hi r, k.int lv⟩) (pe_un un_neg he)
end
end FL

namespace FL
open PySem PySem.Spec PyProof.Rows L2
/-! ### the end: the law's promise, and the facts of the text -/
def isL (o : Obj) : Bool := match o.cls with
  | .type n => n == "list"
  | _ => false
def noL (K : PySem.W.Frag) : Bool := K.all fun p => !isL p.2
theorem noL_at {K : PySem.W.Frag} (h : noL K = true) {a : Addr} {o : Obj} (l : K.lookup a = some o) : o.cls ≠ .type "list" := by
  intro e
  have m : ∀ (L : PySem.W.Frag), L.lookup a = some o → (a, o) ∈ L := by
    intro L
    induction L with
    | nil => intro h; cases h
    | cons p r ih =>
      obtain ⟨b, u⟩ := p
      intro h
      rw [List.lookup_cons] at h
      split at h
      · rename_i q
        cases h
        rw [eq_of_beq q]
        exact List.mem_cons_self
      · exact List.mem_cons_of_mem _ (ih h)
  have q := List.all_eq_true.mp h _ (m K l)
  have : isL o = true := by unfold isL; rw [e]; rfl
  simp [this] at q
theorem repL_ints {K : PySem.W.Frag} {F : Addr → Prop} {H : Hp} : ∀ ns : List Int, RepL K F H (ns.map D.int) (ns.map V.int)
  | [] => rfl
  | n :: r => ⟨.int n, _, rfl, rfl, repL_ints r⟩
theorem law_spF {K : PySem.W.Frag} {n : Nat} {f : List (M × D) → FO} (hno : noL K = true) (hf : ∀ ns : List Int, ns.length ≤ n → ∃ as, f [(.f, .lst (ns.map .int))] = .ret .f (.bl true) as)
    (H : Hp) (a : Addr) (ns : List Int) (hl : ns.length ≤ n) (hS : SqL K H a (ns.map V.int)) : spF K 1 f [.ref a] H (fun v _ => v = .bl true) fun _ _ _ => False := by
  rcases hS with hR | ⟨o, _, _, l, e, _⟩
  · obtain ⟨as, ef⟩ := hf ns hl
    refine ⟨rfl, fun b => b = a, fun _ => [], [(.f, .lst (ns.map .int))], rfl, fun b e => ?_, fun j x e => ?_, fun j b h => ?_, fun i j b h => ?_, ?_⟩
    · subst e
      rcases hR with h | ⟨o, h⟩
      · exact ⟨_, h⟩
      · exact ⟨_, h⟩
    · match j, e with
      | 0, e =>
        cases e
        exact ⟨_, rfl, rfl, a, _, rfl, ⟨rfl, hR⟩, repL_ints ns⟩
    · cases h
    · cases h
    · rw [ef]
      intro v H' F' q fp' B r _
      exact r.2
  · exact absurd e (noL_at hno l)
theorem walk_F {l : PySem.W.OpenLaw} {n k : Nat} {q : Program} {loose : List Str} {XP : (Str → Option Value) → Heap → Prop} {YP : World → Heap → Prop} {d : DefRec} {K : Params → PySem.W.Frag} {f : List (M × D) → FO} {x : Str}
    (hn : l.most = some n) (hn2 : n ≤ sizeLine) (hdf : d.params.defaults = []) (hr : Room k callerA) (hY : ∀ (w : World) (h : Heap), YP w h → (K w.params).In h) (hno : ∀ p, noL (K p) = true)
    (hf : ∀ ns : List Int, ns.length ≤ n → ∃ as, f [(.f, .lst (ns.map .int))] = .ret .f (.bl true) as)
    (F : ∀ (w : World) (mg : Str → Option Value) (fa : Addr) (h : Heap), (K w.params).In h → h.Ns mainGlobals mg → mg d.name = some (.ref fa) →
      ∃ fd : FuncData, (∀ (s : Shared) (u : Value), BindsTo s fd ⟨[u], []⟩ [(x, u)]) ∧ ∀ base : Heap, (K w.params).In base → base.Ns mainGlobals mg → FnOk l.prog w (K w.params) mg base (L2.CX l.prog w) k fa fd [x] (spF (K w.params) 1 f)) :
    PySem.W.WalkO q loose XP YP l.row.toRowW d [] (fun f vs => PySem.call f vs) :=
  L2.walk_of (n := n) (k := k) (x := x) (K := K) (CX := fun w => L2.CX l.prog w) (sp := fun w => spF (K w.params) 1 f) hn hn2 hdf hr hY F (fun w H a ns hl _ hS => law_spF (hno w.params) hf H a ns hl hS) fun w H s e s' h =>
    let ⟨_, _, _, _, _, _, _, _, _, _, _, _, z⟩ := h
    z
/-! the facts of the text, from the words that k_is answers -/
section
variable {K : PySem.W.Frag} {h : Heap} {mg : Str → Option Value}
structure DefG (K : PySem.W.Frag) (mg : Str → Option Value) (x qual : Str) (st : Stmt) : Prop where
  ex : ∃ f fd, mg x = some (.ref f) ∧ Fun K x qual st f fd
structure MethG (K : PySem.W.Frag) (C : Addr) (m qual : Str) (st : Stmt) : Prop where
  ex : ∃ f fd, Meth K C m f ∧ Fun K m qual st f fd
structure InitG (K : PySem.W.Frag) (C : Addr) (qual : Str) (st : Stmt) : Prop where
  ex : ∃ f fd, Mk K C f ∧ Fun K "__init__" qual st f fd
structure InitXG (K : PySem.W.Frag) (C : Addr) (qual : Str) (st : Stmt) : Prop where
  ex : ∃ f fd, PySem.W.findIn K (.ref C) "__init__" = some (some (.ref f)) ∧ PySem.W.typeIn K (.ref f) = some (.type "function") ∧ Fun K "__init__" qual st f fd
section
variable {x qual : Str} {st : Stmt} {f C : Addr} {oc : Value} {od an : Option Addr} {osl : Array (Option Value)} {kV doc pm cdv ct : Value}
theorem defG (X : K.In h) (G : h.Ns mainGlobals mg) (a : PySem.W.nsIn K mainGlobals x = some (some (.ref f)))
    (l : K.lookup f = some ⟨oc, od, .func (PySem.W.fnOf x qual (defArgs st) (defBody st) (defScope st) .none kV doc pm an cdv ct), osl⟩) (c : PySem.W.codeIn K cdv qual = true) (k : PySem.W.keepIn K (.ref f) = true) : DefG K mg x qual st :=
  ⟨_, _, PySem.W.mg_of X G a, fun_mk l c k⟩
theorem methG (a : PySem.W.findIn K (.ref C) x = some (some (.ref f))) (i : PySem.W.isFn K (.ref f) = true)
    (l : K.lookup f = some ⟨oc, od, .func (PySem.W.fnOf x qual (defArgs st) (defBody st) (defScope st) .none kV doc pm an cdv ct), osl⟩) (c : PySem.W.codeIn K cdv qual = true) (k : PySem.W.keepIn K (.ref f) = true) : MethG K C x qual st :=
  ⟨_, _, ⟨a, i, k⟩, fun_mk l c k⟩
theorem initG (a : PySem.W.findIn K (.ref C) "__init__" = some (some (.ref f))) (i : PySem.W.isFn K (.ref f) = true)
    (l : K.lookup f = some ⟨oc, od, .func (PySem.W.fnOf "__init__" qual (defArgs st) (defBody st) (defScope st) .none kV doc pm an cdv ct), osl⟩) (c : PySem.W.codeIn K cdv qual = true) (k : PySem.W.keepIn K (.ref f) = true)
    (mk : PySem.W.makesIn K C = true) (kc : PySem.W.keepIn K (.ref C) = true) : InitG K C qual st :=
  ⟨_, _, ⟨mk, a, i, kc⟩, fun_mk l c k⟩
theorem initXG (a : PySem.W.findIn K (.ref C) "__init__" = some (some (.ref f))) (i : PySem.W.typeIn K (.ref f) = some (.type "function"))
    (l : K.lookup f = some ⟨oc, od, .func (PySem.W.fnOf "__init__" qual (defArgs st) (defBody st) (defScope st) .none kV doc pm an cdv ct), osl⟩) (c : PySem.W.codeIn K cdv qual = true) (k : PySem.W.keepIn K (.ref f) = true) : InitXG K C qual st :=
  ⟨_, _, a, i, fun_mk l c k⟩
end
theorem Fun.to1 {x qual : Str} {st : Stmt} {f : Addr} {fd : FuncData} {p : Str} (F : Fun K x qual st f fd)
    (hb : ∀ (kV doc pm : Value) (an : Option Addr) (cdv ct : Value) (u : Value), bindArgs (PySem.W.fnOf x qual (defArgs st) (defBody st) (defScope st) .none kV doc pm an cdv ct) ⟨[u], []⟩ = pure [(p, u)]) :
    ∀ (s : Shared) (u : Value), BindsTo s fd ⟨[u], []⟩ [(p, u)] := by
  obtain ⟨oc, od, kV, doc, pm, an, cdv, ct, osl, rfl, lk, hcd⟩ := F.ex
  exact fun s u => .of_eq (hb kV doc pm an cdv ct u)
theorem beq_ref_type (C : Addr) (n : String) : (Value.ref C == Value.type n) = false := by rfl
theorem beq_type_ref (C : Addr) (n : String) : (Value.type n == Value.ref C) = false := by rfl
theorem beq_ref (C : Addr) : (Value.ref C == Value.ref C) = true := by
  simp
theorem kit_no {C : Addr} {n : String} {b : Bool} (hm : PySem.W.kitMeta n = true) (hs : PySem.W.subIn K (.ref C) (.type n) = some b) : PySem.W.kitOne K (.ref C) (.type n) = some b := by
  unfold PySem.W.kitOne PySem.W.kitCls
  rw [beq_ref_type]
  simp [hm, hs]
theorem kit_on {t : Value} {C : Addr} {b : Bool} (ht : (t == .ref C) = false) (hc : PySem.W.isClsIn K C = true) (hy : PySem.W.typeIn K (.ref C) = some (.type "type")) (hs : PySem.W.subIn K t (.ref C) = some b) : PySem.W.kitOne K t (.ref C) = some b := by
  unfold PySem.W.kitOne PySem.W.kitCls
  have hc' : (PySem.W.clsIn K C).isSome = true := hc
  rw [ht]
  simp [hc', hy, hs]
theorem kit_self {C : Addr} : PySem.W.kitOne K (.ref C) (.ref C) = some true := by
  unfold PySem.W.kitOne
  rw [beq_ref]
  rfl
theorem exm_mk {C D : Addr} {b : Bool} (h1 : PySem.W.subIn K (.ref D) (.type "BaseException") = some true) (h2 : PySem.W.isClsIn K D = true) (h3 : PySem.W.typeIn K (.ref D) = some (.type "type")) (h4 : PySem.W.subIn K (.ref C) (.ref D) = some b) :
    PySem.W.exmOne K (.ref C) (.ref D) = some b := by
  unfold PySem.W.exmOne PySem.W.kitCls
  have h2' : (PySem.W.clsIn K D).isSome = true := h2
  simp [h1, h2', h3, h4]
/-- an own class -/
structure ClsG (K : PySem.W.Frag) (mg : Str → Option Value) (n : Str) (C : Addr) : Prop where
  g : mg n = some (.ref C)
  cl : Cls K C
  clt : ClsT K C
  kno : ∀ n ∈ tyNames, PySem.W.kitOne K (.ref C) (.type n) = some false
  kon : ∀ t ∈ tyNames, PySem.W.kitOne K (.type t) (.ref C) = some false
theorem clsG {n : Str} {C : Addr} (X : K.In h) (G : h.Ns mainGlobals mg) (a : PySem.W.nsIn K mainGlobals n = some (some (.ref C)))
    (pg : PySem.W.plainGet K C Str.empty = true) (hd : PySem.W.hasDictIn K C = true) (po : PySem.W.plainOver K C = true) (sa : PySem.W.findIn K (.ref C) "__setattr__" = some (some (.builtin "object.__setattr__")))
    (ha : PySem.W.findIn K (.ref C) "__class__" = some (some (.builtin "object.__class__"))) (hn : PySem.W.specialIn K (.builtin "object.__class__") "__get__" = some (some (.builtin "getset_descriptor.__get__")))
    (htk : PySem.W.takesIn K (.builtin "object.__class__") = some true) (hm : PySem.W.mroIn K C (.type "object") = some true)
    (hc : PySem.W.isClsIn K C = true) (hy : PySem.W.typeIn K (.ref C) = some (.type "type"))
    (s1 : PySem.W.subIn K (.ref C) (.type "NoneType") = some false) (s2 : PySem.W.subIn K (.ref C) (.type "bool") = some false) (s3 : PySem.W.subIn K (.ref C) (.type "int") = some false) (s4 : PySem.W.subIn K (.ref C) (.type "str") = some false)
    (s5 : PySem.W.subIn K (.ref C) (.type "tuple") = some false) (s6 : PySem.W.subIn K (.ref C) (.type "list") = some false) (s7 : PySem.W.subIn K (.ref C) (.type "dict") = some false)
    (t1 : PySem.W.subIn K (.type "NoneType") (.ref C) = some false) (t2 : PySem.W.subIn K (.type "bool") (.ref C) = some false) (t3 : PySem.W.subIn K (.type "int") (.ref C) = some false) (t4 : PySem.W.subIn K (.type "str") (.ref C) = some false)
    (t5 : PySem.W.subIn K (.type "tuple") (.ref C) = some false) (t6 : PySem.W.subIn K (.type "list") (.ref C) = some false) (t7 : PySem.W.subIn K (.type "dict") (.ref C) = some false) : ClsG K mg n C := by
  have cl : Cls K C := ⟨pg, hd, po, sa⟩
  refine ⟨PySem.W.mg_of X G a, cl, ⟨cl, ha, hn, htk, hm⟩, fun n hn => ?_, fun t ht => ?_⟩
  · refine kit_no (by revert n; decide +kernel) ?_
    simp only [tyNames, List.mem_cons, List.not_mem_nil, or_false] at hn
    rcases hn with rfl | rfl | rfl | rfl | rfl | rfl | rfl <;> assumption
  · refine kit_on (beq_type_ref _ _) hc hy ?_
    simp only [tyNames, List.mem_cons, List.not_mem_nil, or_false] at ht
    rcases ht with rfl | rfl | rfl | rfl | rfl | rfl | rfl <;> assumption
/-- a class of exceptions -/
structure ExcG (K : PySem.W.Frag) (mg : Str → Option Value) (n : Str) (C : Addr) : Prop where
  g : mg n = some (.ref C)
  ox : OexC K C
  xt : ExcT K C
theorem excG {n : Str} {C : Addr} {nm q : Str} {N : Addr} {bs bm : List Value} {sn : List Str} {sub : List Value} {ab : Bool} {col : Option Bool} {dd : Option Addr} {m0 m1 m2 m3 m5 : Option Value}
    (X : K.In h) (G : h.Ns mainGlobals mg) (a : PySem.W.nsIn K mainGlobals n = some (some (.ref C)))
    (xL : K.lookup C = some (excClassObj nm q C N bs bm true sn sub ab col dd m0 m1 m2 m3 m5 "ValueError.__new__")) (hb : PySem.HandSPX.refsVE bm = true)
    (sa : PySem.W.findIn K (.ref C) "__setattr__" = some (some (.builtin "object.__setattr__"))) (eC : PySem.W.subIn K (.ref C) (.type "BaseException") = some true) (tC : PySem.W.typeIn K (.ref C) = some (.type "type")) (kC : PySem.W.keepIn K (.ref C) = true)
    (ga : PySem.W.findIn K (.ref C) "__getattribute__" = some (some (.builtin "BaseException.__getattribute__"))) (gg : PySem.W.findIn K (.ref C) "__getattr__" = some none) (hd : PySem.W.hasDictIn K C = true) : ExcG K mg n C :=
  ⟨PySem.W.mg_of X G a, ⟨⟨nm, q, N, bs, bm, sn, sub, ab, col, dd, m0, m1, m2, m3, m5, xL, hb⟩, sa, eC, tC, kC⟩, ⟨ga, gg, eC, hd⟩⟩
end
end FL

namespace FL
open PySem PySem.Spec PyProof.Rows L2
/-! ### reckoning with the functions: one step each -/
def EO.bindIK (x : EO) (f : Bool → RK → M → D → List Sl → IO) : KeepT f IO := x.bindI f
def AO.bindIK (x : AO) (f : Bool → List (AK × M × D) → List Sl → IO) : KeepT f IO := x.bindI f
def PRes.bindEK (x : PRes) (f : Bool → Option Int → List Sl → EO) : KeepT f EO := x.bindE f
/-- a size within the line -/
def fit (n : Nat) : Bool := decide (n ≤ 16777216)
@[simp] theorem fit_ok {n : Nat} (h : n ≤ 16777216) : fit n = true := decide_eq_true h
theorem fit_if {α : Type} {n : Nat} {a b : α} : (if n ≤ 16777216 then a else b) = if fit n = true then a else b := by
  unfold fit
  simp only [decide_eq_true_eq]
theorem fit_lt {α : Type} {n : Nat} {a b : α} : (if n < 16777216 then a else b) = if fit (n + 1) = true then a else b := by
  unfold fit
  simp only [decide_eq_true_eq]
  rfl
@[simp] theorem use1_ap (g : M × D → Option (M × D)) (T : List Sl → EO)  (ρ : List Sl) : use1 g T ρ = ((T ρ).bind fun p k m d ρ1 => .val p ρ1 ((curR true ρ1 k m d).bind g)) := rfl
@[simp] theorem use2_ap (g : M × D → M × D → Option (M × D)) (Ta Tb : List Sl → EO)  (ρ : List Sl) : use2 g Ta Tb ρ = ((Ta ρ).bind fun p1 k1 m1 d1 ρ1 => (Tb ρ1).bind fun p2 k2 m2 d2 ρ2 =>
  .val (p1 && p2) ρ2 ((curR p2 ρ2 k1 m1 d1).bind fun a => (curR true ρ2 k2 m2 d2).bind fun b => g a b)) := rfl
@[simp] theorem konst_ap (d : D)  (ρ : List Sl) : konst d ρ = (.ok true .t .f d ρ) := rfl
def nameK (i : Nat) (ρ : List Sl) : Option (M × D) → EO
  | some (.f, d) => .ok true .t .f d ρ
  | some (.o c, d) => .ok true (.s i) (.o c) d ρ
  | some (.r ms, d) => .ok true (.s i) (.r ms) d ρ
  | none => .no
@[simp] theorem name_ap (i : Nat)  (ρ : List Sl) : name i ρ = nameK i ρ (slotAt ρ i) := by
  unfold name
  cases slotAt ρ i with
  | none => rfl
  | some r =>
    obtain ⟨m, d⟩ := r
    cases m <;> rfl
@[simp] theorem nameK_f (i : Nat) (ρ : List Sl) (d : D) : nameK i ρ (some (.f, d)) = .ok true .t .f d ρ := rfl
@[simp] theorem nameK_o (i : Nat) (ρ : List Sl) (c : M) (d : D) : nameK i ρ (some (.o c, d)) = .ok true (.s i) (.o c) d ρ := rfl
@[simp] theorem nameK_r (i : Nat) (ρ : List Sl) (ms : List M) (d : D) : nameK i ρ (some (.r ms, d)) = .ok true (.s i) (.r ms) d ρ := rfl
def slO : Option Sl → Option (M × D)
  | some (.va _ m d) => some (m, d)
  | some .no => none
  | some (.xn _ _ _ _) => none
  | none => none
@[simp] theorem slO_va (p : Option Nat) (m : M) (d : D) : slO (some (.va p m d)) = some (m, d) := rfl
@[simp] theorem slO_no : slO (some .no) = none := rfl
@[simp] theorem slO_xn (a b c : Addr) (fs : List (Str × D)) : slO (some (.xn a b c fs)) = none := rfl
@[simp] theorem tru_ap (T : List Sl → EO)  (ρ : List Sl) : tru T ρ = ((T ρ).bindB fun p k m d ρ1 => .val p ρ1 ((curR true ρ1 k m d).bind truD)) := rfl
@[simp] theorem isB_ap (T : List Sl → EO)  (ρ : List Sl) : isB T ρ = ((T ρ).bindB fun p k m d ρ1 => .val p ρ1 ((curR true ρ1 k m d).bind fun r => boolD r.2)) := rfl
@[simp] theorem andB_ap (Ta Tb : List Sl → BO)  (ρ : List Sl) : andB Ta Tb ρ = ((Ta ρ).bindB fun p b ρ1 => if b then (Tb ρ1).pur p else .ok p false ρ1) := rfl
@[simp] theorem orB_ap (Ta Tb : List Sl → BO)  (ρ : List Sl) : orB Ta Tb ρ = ((Ta ρ).bindB fun p b ρ1 => if b then .ok p true ρ1 else (Tb ρ1).pur p) := rfl
@[simp] theorem notB_ap (Ta : List Sl → BO)  (ρ : List Sl) : notB Ta ρ = ((Ta ρ).bindB fun p b ρ1 => .ok p (!b) ρ1) := rfl
@[simp] theorem ifE_ap (Tc : List Sl → BO) (Ta Tb : List Sl → EO)  (ρ : List Sl) : ifE Tc Ta Tb ρ = ((Tc ρ).bind fun p b ρ1 => if b then (Ta ρ1).pur p else (Tb ρ1).pur p) := rfl
@[simp] theorem andE_ap (Ta Tb : List Sl → EO)  (ρ : List Sl) : andE Ta Tb ρ = ((Ta ρ).bind fun p k m d ρ1 => match (curR true ρ1 k m d).bind fun r => boolD r.2 with
  | some true => (Tb ρ1).pur p
  | some false => .ok p .t .f (.bl false) ρ1
  | none => .no) := rfl
@[simp] theorem orE_ap (Ta Tb : List Sl → EO)  (ρ : List Sl) : orE Ta Tb ρ = ((Ta ρ).bind fun p k m d ρ1 => match (curR true ρ1 k m d).bind fun r => boolD r.2 with
  | some false => (Tb ρ1).pur p
  | some true => .ok p .t .f (.bl true) ρ1
  | none => .no) := rfl
@[simp] theorem orTE_ap (Ta Tb : List Sl → EO)  (ρ : List Sl) : orTE Ta Tb ρ = ((Ta ρ).bind fun p k m d ρ1 => match (curR true ρ1 k m d).bind truD with
  | some true => .ok p k m d ρ1
  | some false => (Tb ρ1).pur p
  | none => .no) := rfl
@[simp] theorem ofB_ap (T : List Sl → BO)  (ρ : List Sl) : ofB T ρ = ((T ρ).bind fun p b ρ1 => .ok p .t .f (.bl b) ρ1) := rfl
@[simp] theorem nilA_ap (ρ : List Sl) : nilA  ρ = (.ok true [] ρ) := rfl
@[simp] theorem consA_ap (T : List Sl → EO) (Ts : List Sl → AO)  (ρ : List Sl) : consA T Ts ρ = ((T ρ).bindA fun p k m d ρ1 => (Ts ρ1).consA p k m d) := rfl
@[simp] theorem useA_ap (g : List (M × D) → Option (M × D)) (Ts : List Sl → AO)  (ρ : List Sl) : useA g Ts ρ = ((Ts ρ).bind fun p its ρ1 => .val p ρ1 ((curs ρ1 its).bind g)) := rfl
@[simp] theorem nextS_ap (ρ : List Sl) : nextS  ρ = (.nx ρ) := rfl
@[simp] theorem seqS_ap (T U : List Sl → SO)  (ρ : List Sl) : seqS T U ρ = ((T ρ).bind U) := rfl
@[simp] theorem dropS_ap (T : List Sl → EO)  (ρ : List Sl) : dropS T ρ = ((T ρ).bindS fun _ _ _ _ ρ1 => .nx ρ1) := rfl
@[simp] theorem retS_ap (T : List Sl → EO)  (ρ : List Sl) : retS T ρ = ((T ρ).bindS fun _ k m d ρ1 => match k with
  | .t => .rt m d ρ1
  | _ => .no) := rfl
@[simp] theorem setS_ap (i : Nat) (T : List Sl → EO)  (ρ : List Sl) : setS i T ρ = ((T ρ).bindS fun _ k m d ρ1 => match k with
  | .t => if i < ρ1.length then .nx (ρ1.set i (.va none m d)) else .no
  | _ => .no) := rfl
@[simp] theorem ifS_ap (c : List Sl → BO) (T U : List Sl → SO)  (ρ : List Sl) : ifS c T U ρ = ((c ρ).bindS fun b ρ1 => if b then T ρ1 else U ρ1) := rfl
@[simp] theorem nameM_ap (i : Nat)  (ρ : List Sl) : nameM i ρ = (match ρ[i]? with
  | some (.va none m d) => .ok false .t m d (ρ.set i .no)
  | _ => .no) := rfl
@[simp] theorem lstI_ap (T : List Sl → EO)  (ρ : List Sl) : lstI T ρ = ((T ρ).bindIK fun p k m d ρ1 => match k, m, d with
  | .t, .f, .lst ds => .ok p ds ρ1
  | _, _, _ => .no) := rfl
@[simp] theorem tupI_ap (T : List Sl → EO)  (ρ : List Sl) : tupI T ρ = ((T ρ).bindIK fun p k m d ρ1 => match k, m, d with
  | .t, .f, .tup ds => .ok p ds ρ1
  | _, _, _ => .no) := rfl
@[simp] theorem strI_ap (T : List Sl → EO)  (ρ : List Sl) : strI T ρ = ((T ρ).bindIK fun p k m d ρ1 => match k, m, d with
  | .t, .f, .str x => .ok p (x.cps.toList.map signD) ρ1
  | _, _, _ => .no) := rfl
@[simp] theorem rangeI_ap (Ts : List Sl → AO)  (ρ : List Sl) : rangeI Ts ρ = ((Ts ρ).bindIK fun p its ρ1 => .of p ρ1 ((((curs ρ1 its).bind intsA).bind rng1).map (rangeD 0))) := rfl
@[simp] theorem rangeI2_ap (Ts : List Sl → AO)  (ρ : List Sl) : rangeI2 Ts ρ = ((Ts ρ).bindIK fun p its ρ1 => .of p ρ1 ((((curs ρ1 its).bind intsA).bind rng2).map fun r => rangeD r.1 r.2)) := rfl
@[simp] theorem enumI_ap (T : List Sl → EO)  (ρ : List Sl) : enumI T ρ = ((T ρ).bindIK fun p k m d ρ1 => match k, m, d with
  | .t, .f, .lst ds => .ok p (enumD ds) ρ1
  | _, _, _ => .no) := rfl
@[simp] theorem yesB_ap (ρ : List Sl) : yesB  ρ = (.ok true true ρ) := rfl
@[simp] theorem chainE_ap (g g' : M × D → M × D → Option (M × D)) (Ta Tb Tc : List Sl → EO)  (ρ : List Sl) : chainE g g' Ta Tb Tc ρ = ((Ta ρ).bind fun p1 k1 m1 d1 ρ1 => (Tb ρ1).bind fun p2 k2 m2 d2 ρ2 =>
  match ((curR p2 ρ2 k1 m1 d1).bind fun a => (curR true ρ2 k2 m2 d2).bind fun b => g a b) with
  | some (.f, .bl true) => (Tc ρ2).bind fun p3 k3 m3 d3 ρ3 => .val (p1 && p2 && p3) ρ3 ((curR p3 ρ3 k2 m2 d2).bind fun b => (curR true ρ3 k3 m3 d3).bind fun c => g' b c)
  | some (.f, .bl false) => .ok (p1 && p2) .t .f (.bl false) ρ2
  | _ => .no) := rfl
@[simp] theorem partO_ap (T : List Sl → EO)  (ρ : List Sl) : partO T ρ = (match T ρ with
  | .ok p k m d ρ1 => (match (curR true ρ1 k m d).bind inD with
    | some i => .ok p (some i) ρ1
    | none => .no)
  | .ex C fs ρ1 => .ex C fs ρ1
  | .no => .no) := rfl
@[simp] theorem partN_ap (ρ : List Sl) : partN  ρ = (.ok true none ρ) := rfl
@[simp] theorem sliceE_ap (T : List Sl → EO) (Tl Th : List Sl → PRes)  (ρ : List Sl) : sliceE T Tl Th ρ = ((T ρ).bind fun p1 k1 m1 d1 ρ1 => (Tl ρ1).bindEK fun p2 lo ρ2 => (Th ρ2).bindEK fun p3 hi ρ3 =>
  .val (p1 && (p2 && p3)) ρ3 ((curR (p2 && p3) ρ3 k1 m1 d1).bind fun a => sliceD a lo hi)) := rfl
@[simp] theorem enumI2_ap (T : List Sl → EO)  (ρ : List Sl) : enumI2 T ρ = ((T ρ).bindIK fun p k m d ρ1 => match k, m, d with
  | .t, .f, .lst ds => .ok p (enumD ds) ρ1
  | .t, .f, .tup ds => .ok p (enumD ds) ρ1
  | .t, .f, .str x => .ok p (enumD (x.cps.toList.map signD)) ρ1
  | _, _, _ => .no) := rfl
@[simp] theorem anyI_ap (T : List Sl → EO)  (ρ : List Sl) : anyI T ρ = ((T ρ).bindIK fun p k m d ρ1 => match k, m, d with
  | .t, .f, .lst ds => .ok p ds ρ1
  | .t, .f, .tup ds => .ok p ds ρ1
  | .t, .f, .str x => .ok p (x.cps.toList.map signD) ρ1
  | .t, .f, .dct kvs => .ok p (kvs.map (·.1)) ρ1
  | _, _, _ => .no) := rfl
@[simp] theorem keysI_ap (T : List Sl → EO)  (ρ : List Sl) : keysI T ρ = ((T ρ).bindIK fun p k m d ρ1 => match k, m, d with
  | .t, .f, .dct kvs => .ok p (kvs.map (·.1)) ρ1
  | _, _, _ => .no) := rfl
@[simp] theorem valsI_ap (T : List Sl → EO)  (ρ : List Sl) : valsI T ρ = ((T ρ).bindIK fun p k m d ρ1 => match k, m, d with
  | .t, .f, .dct kvs => .ok p (kvs.map (·.2)) ρ1
  | _, _, _ => .no) := rfl
@[simp] theorem itemsI_ap (T : List Sl → EO)  (ρ : List Sl) : itemsI T ρ = ((T ρ).bindIK fun p k m d ρ1 => match k, m, d with
  | .t, .f, .dct kvs => .ok p (kvs.map fun kv => .tup [kv.1, kv.2]) ρ1
  | _, _, _ => .no) := rfl
@[simp] theorem zipI_ap (Ts : List Sl → AO)  (ρ : List Sl) : zipI Ts ρ = ((Ts ρ).bindIK fun p its ρ1 => .of p ρ1 ((lstsA its).map fun r => zipD r.1 r.2)) := rfl
@[simp] theorem starA_ap (T : List Sl → EO) (Ts : List Sl → AO)  (ρ : List Sl) : starA T Ts ρ = ((T ρ).bindA fun p k m d ρ1 => match k, sqD (m, d) with
  | .t, some ds => (Ts ρ1).app p (ds.map fItem)
  | _, _ => .no) := rfl
@[simp] theorem dnewE_ap (ρ : List Sl) : dnewE  ρ = (.ok true .t (.o .f) (.dct []) ρ) := rfl
def nameFK (i : Nat) (ρ : List Sl) : Option Sl → EO
  | some (.va p .f d) => .ok true .t .f d (ρ.set i (.va p .f d))
  | some (.va p (.o .f) (.dct kvs)) => .ok true .t .f (.dct kvs) (ρ.set i (.va p .f (.dct kvs)))
  | some (.va p m d) => if noD m d then .ok true .t .f d (ρ.set i (.va p .f d)) else .no
  | some .no => .no
  | some (.xn _ _ _ _) => .no
  | none => .no
@[simp] theorem nameFK_f (i : Nat) (ρ : List Sl) (p : Option Nat) (d : D) : nameFK i ρ (some (.va p .f d)) = .ok true .t .f d (ρ.set i (.va p .f d)) := rfl
@[simp] theorem nameFK_d (i : Nat) (ρ : List Sl) (p : Option Nat) (kvs : List (D × D)) : nameFK i ρ (some (.va p (.o .f) (.dct kvs))) = .ok true .t .f (.dct kvs) (ρ.set i (.va p .f (.dct kvs))) := rfl
@[simp] theorem nameFK_l (i : Nat) (ρ : List Sl) (p : Option Nat) (xs : List D) : nameFK i ρ (some (.va p (.o .f) (.lst xs))) = .ok true .t .f (.lst xs) (ρ.set i (.va p .f (.lst xs))) := by
  show (if noD (.o .f) (.lst xs) then _ else _) = _
  rw [if_pos (by simp [noD])]
@[simp] theorem nameFK_r (i : Nat) (ρ : List Sl) (p : Option Nat) (ms : List M) (d : D) : nameFK i ρ (some (.va p (.r ms) d)) = if noD (.r ms) d then .ok true .t .f d (ρ.set i (.va p .f d)) else .no := rfl
@[simp] theorem nameFD_ap (i : Nat)  (ρ : List Sl) : nameFD i ρ = nameFK i ρ (ρ[i]?) := by
  unfold nameFD nameF
  cases ρ[i]? with
  | none => rfl
  | some s =>
    cases s with
    | va p m d =>
      cases m with
      | f =>
        simp only [noD]
        cases d <;> rfl
      | o c => cases c <;> cases d <;> rfl
      | r ms => cases d <;> rfl
    | no => rfl
    | xn a b c fs => rfl
@[simp] theorem appE_ap (i : Nat) (T : List Sl → EO)  (ρ : List Sl) : appE i T ρ = (match slotAt ρ i with
  | some (.o .f, .lst _) => (T ρ).bind fun _ k m d ρ1 => (match k, m, ρ1[i]? with
    | .t, .f, some (.va q (.o .f) (.lst ds)) => if fit (ds.length + 1) = true then .ok false .t .f .non (ρ1.set i (.va q (.o .f) (.lst (ds ++ [d])))) else .no
    | _, _, _ => .no)
  | _ => .no) := by
  unfold appE
  generalize slotAt ρ i = o
  cases o with
  | none => rfl
  | some r =>
    obtain ⟨m, d⟩ := r
    cases m with
    | f => rfl
    | r ms => rfl
    | o c =>
      cases c with
      | o c => rfl
      | r ms => rfl
      | f =>
        cases d with
        | lst xs =>
          cases T ρ with
          | ok p k m d ρ1 =>
            show (match k, m, ρ1[i]? with
              | .t, .f, some (.va q (.o .f) (.lst ds)) => if ds.length < 16777216 then EO.ok false .t .f .non (ρ1.set i (.va q (.o .f) (.lst (ds ++ [d])))) else .no
              | _, _, _ => .no) = (match k, m, ρ1[i]? with
              | .t, .f, some (.va q (.o .f) (.lst ds)) => if fit (ds.length + 1) = true then EO.ok false .t .f .non (ρ1.set i (.va q (.o .f) (.lst (ds ++ [d])))) else .no
              | _, _, _ => .no)
            simp only [fit_lt]
          | ex C fs ρ1 => rfl
          | no => rfl
        | _ => rfl
@[simp] theorem setIxS_ap (i : Nat) (Tk Tv : List Sl → EO)  (ρ : List Sl) : setIxS i Tk Tv ρ = ((Tv ρ).bindS fun _ k m d ρ1 => match k, m with
  | .t, .f => if (slotAt ρ1 i).isSome then (Tk ρ1).bindS (fun _ k2 m2 kd ρ2 => match k2, m2 with
    | .t, .f => (match putIx ρ2 i kd d with
      | some ρ3 => .nx ρ3
      | none => .no)
    | _, _ => .no) else .no
  | _, _ => .no) := rfl
@[simp] theorem augS_ap (i : Nat) (g : M × D → M × D → Option (M × D)) (T : List Sl → EO)  (ρ : List Sl) : augS i g T ρ = (match slotAt ρ i with
  | some (.f, d0) => (T ρ).bindS fun _ k m d ρ1 => (match k, m, g (.f, d0) (.f, d) with
    | .t, .f, some (.f, d2) => if i < ρ1.length then .nx (ρ1.set i (.va none .f d2)) else .no
    | _, _, _ => .no)
  | _ => .no) := rfl
@[simp] theorem setFldS_ap (i : Nat) (ok : Addr → Bool) (f : Str) (T : List Sl → EO)  (ρ : List Sl) : setFldS i ok f T ρ = ((T ρ).bindS fun _ k m d ρ1 => match k, m, ρ1[i]? with
  | .t, .f, some (.va q (.r ms) (.obj C fs)) => if allM ms && ok C && decide (fs.length < 1000) then .nx (ρ1.set i (.va q (.r (List.replicate (putFD f d fs).length .f)) (.obj C (putFD f d fs)))) else .no
  | _, _, _ => .no) := rfl
@[simp] theorem parS_ap (i j : Nat) (Ts : List Sl → AO)  (ρ : List Sl) : parS i j Ts ρ = (match Ts ρ with
  | .ok _ [(.k .t, m1, d1), (.k .t, m2, d2)] ρ1 => if i < ρ1.length ∧ j < ρ1.length then .nx ((ρ1.set i (.va none m1 d1)).set j (.va none m2 d2)) else .no
  | .ex C fs ρ1 => .ex C fs ρ1
  | _ => .no) := rfl
@[simp] theorem asgS_ap (T : List Sl → EO) (g : D → List Sl → Option (List Sl))  (ρ : List Sl) : asgS T g ρ = ((T ρ).bindS fun _ k m d ρ1 => match k, m with
  | .t, .f => (match g d ρ1 with
    | some ρ2 => .nx ρ2
    | none => .no)
  | _, _ => .no) := rfl
@[simp] theorem getE_ap (To Tk Tx : List Sl → EO)  (ρ : List Sl) : getE To Tk Tx ρ = ((To ρ).bind fun p1 k1 m1 d1 ρ1 => if ((curR true ρ1 k1 m1 d1).bind dcD).isSome then (Tk ρ1).bind fun p2 k2 m2 d2 ρ2 => (Tx ρ2).bind fun p3 k3 m3 d3 ρ3 =>
  .val (p1 && (p2 && p3)) ρ3 ((curR true ρ3 k1 m1 d1).bind fun a => (curR true ρ3 k2 m2 d2).bind fun b => (curR true ρ3 k3 m3 d3).bind fun c => (dcD a).bind fun kvs => (kyO b).bind fun k => match c with
    | (.f, x) => some (.f, (valD kvs (dK k)).getD x)
    | _ => none) else .no) := rfl
@[simp] theorem excE_ap (i : Nat) (a d C : Addr) (ok : Addr → Bool) (f : Str)  (ρ : List Sl) : excE i a d C ok f ρ = (match ρ[i]? with
  | some (.xn a' d' C' fs) => if a' = a ∧ d' = d ∧ C' = C ∧ ok C = true then .val true ρ ((fs.lookup f).map fun x => (.f, x)) else .no
  | _ => .no) := rfl
@[simp] theorem augIxS_ap (i : Nat) (g : M × D → M × D → Option (M × D)) (Tk Te : List Sl → EO)  (ρ : List Sl) : augIxS i g Tk Te ρ = (if (slotAt ρ i).isSome then (Tk ρ).bindS fun _ k m kd ρ1 => (match k, m, ρ1[i]? with
    | .t, .f, some (.va _ (.o .f) (.lst ds)) => (match (inD (.f, kd)).bind (atI ds) with
      | some x => (Te ρ1).bindS fun _ k2 m2 d ρ2 => (match k2, m2, g (.f, x) (.f, d) with
        | .t, .f, some (.f, d2) => (match putIx ρ2 i kd d2 with
          | some ρ3 => .nx ρ3
          | none => .no)
        | _, _, _ => .no)
      | none => .no)
    | _, _, _ => .no) else .no) := rfl
section
variable {p q b : Bool} {k : RK} {m : M} {d : D} {ρ : List Sl} {C : Addr} {fs : List (Str × D)}
@[simp] theorem eo_bind_ok {f} : (EO.ok p k m d ρ).bind f = f p k m d ρ := rfl
@[simp] theorem eo_bindB_ok {f} : (EO.ok p k m d ρ).bindB f = f p k m d ρ := rfl
@[simp] theorem eo_bindA_ok {f} : (EO.ok p k m d ρ).bindA f = f p k m d ρ := rfl
@[simp] theorem eo_bindS_ok {f} : (EO.ok p k m d ρ).bindS f = f p k m d ρ := rfl
@[simp] theorem eo_bindI_ok {f} : (EO.ok p k m d ρ).bindIK f = f p k m d ρ := rfl
@[simp] theorem bo_bind_ok {f} : (BO.ok p b ρ).bind f = f p b ρ := rfl
@[simp] theorem bo_bindB_ok {f} : (BO.ok p b ρ).bindB f = f p b ρ := rfl
@[simp] theorem bo_bindS_ok {f} : (BO.ok p b ρ).bindS f = f b ρ := rfl
@[simp] theorem ao_bind_ok {its f} : (AO.ok p its ρ).bind f = f p its ρ := rfl
@[simp] theorem ao_bindI_ok {its f} : (AO.ok p its ρ).bindIK f = f p its ρ := rfl
@[simp] theorem so_bind_nx {f} : (SO.nx ρ).bind f = f ρ := rfl
@[simp] theorem so_bind_rt {f} : (SO.rt m d ρ).bind f = .rt m d ρ := rfl
@[simp] theorem so_bind_bk {f} : (SO.bk ρ).bind f = .bk ρ := rfl
@[simp] theorem so_bind_ct {f} : (SO.ct ρ).bind f = .ct ρ := rfl
@[simp] theorem so_bind_ex {f} : (SO.ex C fs ρ).bind f = .ex C fs ρ := rfl
@[simp] theorem pr_bindE_ok {i f} : (PRes.ok p i ρ).bindEK f = f p i ρ := rfl
@[simp] theorem eo_pur_ok : (EO.ok q k m d ρ).pur p = .ok (p && q) k m d ρ := rfl
@[simp] theorem bo_pur_ok : (BO.ok q b ρ).pur p = .ok (p && q) b ρ := rfl
@[simp] theorem eo_val_some {r : M × D} : EO.val p ρ (some r) = .ok p .t r.1 r.2 ρ := rfl
@[simp] theorem bo_val_some : BO.val p ρ (some b) = .ok p b ρ := rfl
@[simp] theorem io_of_some {ds : List D} : IO.of p ρ (some ds) = .ok p ds ρ := rfl
@[simp] theorem curR_t : curR p ρ .t m d = some (m, d) := rfl
@[simp] theorem curR_s {n : Nat} : curR p ρ (.s n) m d = slotAt ρ n := rfl
@[simp] theorem ao_consA_ok {its} : (AO.ok q its ρ).consA p k m d = .ok (p && q) ((dimK q k, m, d) :: its) ρ := rfl
@[simp] theorem curs_nil : curs ρ [] = some [] := rfl
@[simp] theorem curs_cons {i is} : curs ρ (i :: is) = (curA ρ i).bind fun a => (curs ρ is).map (a :: ·) := rfl
end
section
variable {i j : Int} {x y : Str} {xs ys : List D} {b : Bool} {m : M} {d : D}
@[simp] theorem inD_int : inD (.f, .int i) = some i := rfl
@[simp] theorem stD_str : stD (.f, .str x) = some x := rfl
@[simp] theorem lsD_f : lsD (.f, .lst xs) = some xs := rfl
@[simp] theorem lsD_o : lsD (.o .f, .lst xs) = some xs := rfl
@[simp] theorem tpD_f : tpD (.f, .tup xs) = some xs := rfl
@[simp] theorem sqD_f : sqD (.f, .lst xs) = some xs := rfl
@[simp] theorem sqD_o : sqD (.o .f, .lst xs) = some xs := rfl
@[simp] theorem sqD_t : sqD (.f, .tup xs) = some xs := rfl
@[simp] theorem rdO_f : rdO (.f, d) = some d := rfl
@[simp] theorem rdO_o : rdO (.o .f, .lst xs) = some (.lst xs) := rfl
@[simp] theorem boolD_bl : boolD (.bl b) = some b := rfl
@[simp] theorem addD_int : addD (.f, .int i) (.f, .int j) = some (.f, .int (i + j)) := rfl
@[simp] theorem subD_int : subD (.f, .int i) (.f, .int j) = some (.f, .int (i - j)) := rfl
@[simp] theorem augAddD_int : augAddD (.f, .int i) (.f, .int j) = some (.f, .int (i + j)) := rfl
@[simp] theorem ltD_int : ltD (.f, .int i) (.f, .int j) = some (.f, .bl (decide (i < j))) := rfl
@[simp] theorem gtD_int : gtD (.f, .int i) (.f, .int j) = some (.f, .bl (decide (j < i))) := rfl
@[simp] theorem leD_int : leD (.f, .int i) (.f, .int j) = some (.f, .bl (decide (i ≤ j))) := rfl
@[simp] theorem geD_int : geD (.f, .int i) (.f, .int j) = some (.f, .bl (decide (j ≤ i))) := rfl
@[simp] theorem intD_int : FL.intD [(.f, .int i)] = some (.f, .int i) := rfl
@[simp] theorem lenD_lf : lenD [(.f, .lst xs)] = some (.f, .int (xs.length : Nat)) := rfl
@[simp] theorem lenD_lo : lenD [(.o .f, .lst xs)] = some (.f, .int (xs.length : Nat)) := rfl
@[simp] theorem lenD_tf : lenD [(.f, .tup xs)] = some (.f, .int (xs.length : Nat)) := rfl
theorem modD_int (h : 0 < j) : modD (.f, .int i) (.f, .int j) = some (.f, .int (i % j)) := by
  show ifO (decide (0 < j)) _ = _
  rw [ifO, if_pos (decide_eq_true h)]
theorem fdivD_int (h : 0 < j) (h2 : j < 1073741824) : fdivD (.f, .int i) (.f, .int j) = some (.f, .int (i / j)) := by
  show ifO (decide (0 < j) && decide (j < 1073741824)) _ = _
  rw [ifO, if_pos (by simp [h, h2])]
theorem mulDD_int (h : (smallI i || smallI j) = true) : mulDD (.f, .int i) (.f, .int j) = some (.f, .int (i * j)) := by
  show (ifO (smallI i || smallI j) (.int (i * j))).or _ = _
  rw [ifO, if_pos h]
  rfl
theorem ixDD_seq {a : M × D} (ha : sqD a = some xs) (h : atI xs i = some d) : ixDD a (.f, .int i) = some (.f, d) := by
  show ((sqD a).bind fun x => (some i).bind fun y => (atI x y).map fun d => ((.f : M), d)).or _ = _
  rw [ha]
  show ((atI xs i).map fun d => ((.f : M), d)).or _ = _
  rw [h]
  rfl
end
section
variable {p q : Bool} {m : M} {d : D} {ρ : List Sl} {C : Addr} {fs : List (Str × D)} {f : List (M × D) → FO} {Ts : List Sl → AO}
@[simp] theorem callE_ap : callE f Ts ρ = ((Ts ρ).bind fun p its ρ1 => match lents ρ1 its with
  | none => .no
  | some as => if apart (its.map slotOf) then (match f as with
    | .ret m d as' => .ok (p && allNone (its.map slotOf)) .t m d (backs ρ1 (its.map slotOf) as')
    | .exc C fs as' => .ex C fs (backs ρ1 (its.map slotOf) as')
    | .no => .no) else .no) := rfl
@[simp] theorem slotAt_ap {k : Nat} : FL.slotAt ρ k = slO (ρ[k]?) := by
  unfold slotAt
  cases ρ[k]? with
  | none => rfl
  | some s => cases s <;> rfl
@[simp] theorem dimK_t : dimK p .t = .k .t := rfl
@[simp] theorem dimK_s {k : Nat} : dimK p (.s k) = .k (.s k) := rfl
@[simp] theorem curA_k {r : RK} : curA ρ (.k r, m, d) = curR true ρ r m d := rfl
@[simp] theorem lents_nil : lents ρ [] = some [] := rfl
@[simp] theorem lents_cons {i is} : lents ρ (i :: is) = (lent ρ i).bind fun a => (lents ρ is).map (a :: ·) := rfl
@[simp] theorem lent_t : lent ρ (.k .t, .f, d) = some (.f, d) := rfl
@[simp] theorem lent_s {k : Nat} : lent ρ (.k (.s k), m, d) = FL.slotAt ρ k := rfl
@[simp] theorem slotOf_t : slotOf (.k .t, m, d) = none := rfl
@[simp] theorem slotOf_s {k : Nat} : slotOf (.k (.s k), m, d) = some k := rfl
@[simp] theorem initSl_nil {j : Nat} : initSl j [] = [] := rfl
@[simp] theorem initSl_cons {j : Nat} {a r} : initSl j (a :: r) = .va (some j) a.1 a.2 :: initSl (j + 1) r := rfl
@[simp] theorem outsF_nil {j : Nat} : outsF ρ j [] = some [] := rfl
@[simp] theorem outsF_cons {j : Nat} {a r} : outsF ρ j (a :: r) = (outAt ρ j a).bind fun b => (outsF ρ (j + 1) r).map (b :: ·) := rfl
end
section
theorem or_none' {α : Type} (x : Option α) : x.or none = x := by cases x <;> rfl
variable {i j : Int} {x y : Str} {xs ys : List D} {kvs : List (D × D)} {b : Bool} {m : M} {d : D}
@[simp] theorem ixDD_lf : ixDD (.f, .lst xs) (.f, .int i) = (atI xs i).map fun d => (.f, d) := or_none' _
@[simp] theorem ixDD_lo : ixDD (.o .f, .lst xs) (.f, .int i) = (atI xs i).map fun d => (.f, d) := or_none' _
@[simp] theorem ixDD_tf : ixDD (.f, .tup xs) (.f, .int i) = (atI xs i).map fun d => (.f, d) := or_none' _
@[simp] theorem ixDD_sf : ixDD (.f, .str x) (.f, .int i) = if fit x.length = true then (atI x.cps.toList i).map fun c => (.f, .str ⟨#[c]⟩) else none := or_none' _
@[simp] theorem ixDD_df : ixDD (.f, .dct kvs) (.f, .str x) = (valD kvs (.str x)).map fun d => (.f, d) := rfl
@[simp] theorem ixDD_do : ixDD (.o .f, .dct kvs) (.f, .str x) = (valD kvs (.str x)).map fun d => (.f, d) := rfl
@[simp] theorem atI_0 {α : Type} {a : α} {l : List α} : atI (a :: l) 0 = some a := by simp [atI, ixN]
@[simp] theorem atI_1 {α : Type} {a b : α} {l : List α} : atI (a :: b :: l) 1 = some b := by
  have h : (1 : Int) < (a :: b :: l).length := by simp; omega
  simp only [atI, ixN, if_pos h]; simp
@[simp] theorem atI_2 {α : Type} {a b c : α} {l : List α} : atI (a :: b :: c :: l) 2 = some c := by
  have h : (2 : Int) < (a :: b :: c :: l).length := by simp; omega
  simp only [atI, ixN, if_pos h]; simp
end
section
end
section
variable {p b : Bool} {d : D} {xs : List D} {kvs : List (D × D)} {ρ : List Sl} {C : Addr} {fs : List (Str × D)}
def frzDK : EO → EO := fun x => match x with
  | .ok p .t (.o .f) (.dct kvs) ρ1 => .ok p .t .f (.dct kvs) ρ1
  | x => frzK x
@[simp] theorem frzD_eq {T : List Sl → EO} : frzD T ρ = frzDK (T ρ) := rfl
@[simp] theorem frzDK_f : frzDK (.ok p .t .f d ρ) = .ok p .t .f d ρ := rfl
@[simp] theorem frzDK_l : frzDK (.ok p .t (.o .f) (.lst xs) ρ) = .ok p .t .f (.lst xs) ρ := by
  show (if noD (.o .f) (.lst xs) then _ else _) = _
  rw [if_pos (by simp [noD])]
@[simp] theorem frzDK_t : frzDK (.ok p .t (.o .f) (.tup xs) ρ) = .ok p .t .f (.tup xs) ρ := by
  show (if noD (.o .f) (.tup xs) then _ else _) = _
  rw [if_pos (by simp [noD])]
@[simp] theorem frzDK_d : frzDK (.ok p .t (.o .f) (.dct kvs) ρ) = .ok p .t .f (.dct kvs) ρ := rfl
@[simp] theorem frzDK_ex : frzDK (.ex C fs ρ) = .ex C fs ρ := rfl
end
section
def IO.bindL (x : IO) (f : List D → List Sl → SO) : KeepT f SO := match x with
  | .ok _ ds ρ1 => f ds ρ1
  | .ex C fs ρ1 => .ex C fs ρ1
  | .no => .no
@[simp] theorem io_bindL_ok {p : Bool} {ds : List D} {ρ : List Sl} {f} : (IO.ok p ds ρ).bindL f = f ds ρ := rfl
variable {it : List Sl → IO} {tg : D → List Sl → Option (List Sl)} {body : List Sl → SO} {ρ : List Sl}
@[simp] theorem forS_ap : forS it tg body ρ = (it ρ).bindL fun ds ρ1 => loopS tg body ds ρ1 := rfl
theorem loop_inv {P : List Sl → Prop} : ∀ {ds : List D} {ρ : List Sl}, (∀ d ∈ ds, ∀ ρ, P ρ → ∃ ρ1, tg d ρ = some ρ1 ∧ ∃ ρ2, (body ρ1 = .nx ρ2 ∨ body ρ1 = .ct ρ2) ∧ P ρ2) → P ρ → ∃ ρ', loopS tg body ds ρ = .nx ρ' ∧ P ρ'
  | [], ρ, _, h => ⟨ρ, rfl, h⟩
  | d :: ds, ρ, hs, h => by
    obtain ⟨ρ1, e1, ρ2, e2, h2⟩ := hs d List.mem_cons_self ρ h
    obtain ⟨ρ', e3, h3⟩ := loop_inv (fun d hd => hs d (List.mem_cons_of_mem _ hd)) h2
    refine ⟨ρ', ?_, h3⟩
    unfold loopS
    rw [e1]
    rcases e2 with e2 | e2
    · simp only [e2]
      exact e3
    · simp only [e2]
      exact e3
@[simp] theorem putG_ap {i : Nat} {d : D} : putG i d ρ = if i < ρ.length then some (ρ.set i (.va none .f d)) else none := rfl
@[simp] theorem intsA_nil : intsA [] = some [] := rfl
@[simp] theorem retS_k : ∀ {m : M} {d : D} {p : Bool}, ((EO.ok p .t m d ρ).bindS fun _ k m d ρ1 => match k with
  | .t => SO.rt m d ρ1
  | _ => .no) = .rt m d ρ := rfl
theorem mulDD_if {i j : Int} : mulDD (.f, .int i) (.f, .int j) = if (smallI i || smallI j) = true then some (.f, .int (i * j)) else none := by
  show (ifO (smallI i || smallI j) (.int (i * j))).or _ = _
  unfold ifO
  split <;> rfl
end
section
variable {d : D} {x y : M × D} {a b : D} {as : List (M × D)} {f : Bool → Bool}
@[simp] theorem allF_nil : allF [] = some [] := rfl
@[simp] theorem allF_cons {r} : allF ((.f, d) :: r) = (allF r).map (d :: ·) := rfl
@[simp] theorem lstD_ap : lstD as = (allF as).bind fun ds => if fit ds.length = true then some (.o .f, .lst ds) else none := by
  unfold lstD
  simp only [fit_if]
@[simp] theorem tupD_ap : tupD as = (allF as).bind fun ds => if fit ds.length = true then some (.f, .tup ds) else none := by
  unfold tupD
  simp only [fit_if]
@[simp] theorem eqDD_ap : eqDD x y = (rdO x).bind fun a => (rdO y).bind fun b => if (eqable 60 a && eqable 60 b) = true then some (.f, .bl (eqD a b)) else none := rfl
@[simp] theorem neDD_ap : neDD x y = (rdO x).bind fun a => (rdO y).bind fun b => if (eqable 60 a && eqable 60 b) = true then some (.f, .bl (!eqD a b)) else none := rfl
@[simp] theorem eqable_ints {n : Nat} {ns : List Int} : eqable (n + 1) (.lst (ns.map .int)) = true := by simp [eqable]
@[simp] theorem eqable_nil {n : Nat} : eqable (n + 1) (.lst []) = true := by simp [eqable]
@[simp] theorem eqable_int {n : Nat} {i : Int} : eqable n (.int i) = true := by cases n <;> simp [eqable]
@[simp] theorem eqable_str {n : Nat} {i : Str} : eqable n (.str i) = true := by cases n <;> simp [eqable]
@[simp] theorem eqable_bl {n : Nat} {i : Bool} : eqable n (.bl i) = true := by cases n <;> simp [eqable]
@[simp] theorem eqable_non {n : Nat} : eqable n .non = true := by cases n <;> simp [eqable]
@[simp] theorem eqD_nil_nil : eqD (.lst []) (.lst []) = true := by simp [eqD, eqDs]
@[simp] theorem eqD_cons_nil {xs} : eqD (.lst (d :: xs)) (.lst []) = false := by simp [eqD, eqDs]
theorem eqD_lst_nil {xs : List D} : eqD (.lst xs) (.lst []) = xs.isEmpty := by cases xs <;> simp
end
section
def bodyK (as : List (M × D)) (x : SO) : FO := match x with
  | .rt m d ρ => (match outsF ρ 0 as with
    | some as' => .ret m d as'
    | none => .no)
  | .nx ρ => (match outsF ρ 0 as with
    | some as' => .ret .f .non as'
    | none => .no)
  | .ex C fs ρ => (match outsF ρ 0 as with
    | some as' => .exc C fs as'
    | none => .no)
  | _ => .no
@[simp] theorem bodyF_ap {N : Nat} {T : List Sl → SO} {as : List (M × D)} : bodyF N T as = bodyK as (T (initSl 0 as ++ List.replicate (N - as.length) .no)) := rfl
variable {m : M} {d : D} {ρ : List Sl} {as : List (M × D)} {ds : List D}
@[simp] theorem bodyK_rt : bodyK as (.rt m d ρ) = match outsF ρ 0 as with
    | some as' => .ret m d as'
    | none => .no := rfl
@[simp] theorem bodyK_nx : bodyK as (.nx ρ) = match outsF ρ 0 as with
    | some as' => .ret .f .non as'
    | none => .no := rfl
@[simp] theorem tupG_tup {n : Nat} {Ts} : tupG n Ts (.tup ds) ρ = if ds.length = n then Ts ds ρ else none := rfl
@[simp] theorem consG_ap {T Ts} : consG T Ts (d :: ds) ρ = (T d ρ).bind fun ρ1 => Ts ds ρ1 := rfl
@[simp] theorem nilG_ap : nilG [] ρ = some ρ := rfl
end
end FL

namespace FL
open PySem PySem.Spec PyProof.Rows L2
/-! ### texts as lists of signs -/
def mkS (l : List Nat) : Str := ⟨l.toArray⟩
section
variable {a b l : List Nat} {c d : Nat} {s z : Str}
@[simp] theorem mkS_toList : (mkS l).cps.toList = l := by simp [mkS]
@[simp] theorem mkS_size : (mkS l).cps.size = l.length := by simp [mkS]
@[simp] theorem mkS_length : (mkS l).length = l.length := by
  show (mkS l).cps.size = _
  simp
theorem str_mkS (s : Str) : s = mkS s.cps.toList := by
  cases s with | mk a => simp [mkS]
theorem mkS_app : mkS a ++ mkS b = mkS (a ++ b) := by
  show (⟨a.toArray ++ b.toArray⟩ : Str) = ⟨(a ++ b).toArray⟩
  simp
@[simp] theorem mkS_inj : mkS a = mkS b ↔ a = b := by
  constructor
  · intro h
    have := congrArg (fun x : Str => x.cps.toList) h
    simpa using this
  · rintro rfl
    rfl
theorem str_beq (s z : Str) : (s == z) = decide (s = z) := by
  by_cases h : s = z
  · subst h; simp
  · simp [h]
@[simp] theorem mkS_beq : (mkS a == mkS b) = decide (a = b) := by
  rw [str_beq]
  simp
theorem occB_sign' : occB ⟨#[c]⟩ s = decide (c ∈ s.cps.toList) := PySem.StrLaws.found_one s c
/-- a sign in a text -/
def hasS (s : Str) (c : Nat) : Bool := decide (c ∈ s.cps.toList)
@[simp] theorem str_one : (⟨#[c]⟩ : Str) = mkS [c] := rfl
@[simp] theorem occB_has : occB (mkS [c]) s = hasS s c := PySem.StrLaws.found_one s c
theorem hasS_mkS : hasS (mkS l) c = decide (c ∈ l) := by
  unfold hasS
  rw [mkS_toList]
@[simp] theorem signD_ap : signD c = .str (mkS [c]) := rfl
theorem cutS_mkS {lo hi : Option Int} : cutS (mkS l) lo hi = mkS ((l.drop (HT.sIx l.length 0 lo)).take (HT.sIx l.length l.length hi - HT.sIx l.length 0 lo)) := by
  unfold cutS
  rw [mkS_length, mkS_toList]
  rfl
theorem join_mkS : ∀ (s : List Nat) (ls : List (List Nat)), Txt.join (mkS s) (ls.map mkS) = mkS (List.intercalate s ls) := by
  intro s ls
  show PySem.Builtin.Str.glued (mkS s) (ls.map mkS) = _
  rw [StrLaws.glued_eq_join]
  induction ls with
  | nil => rfl
  | cons x r ih =>
    cases r with
    | nil => simp [Str.join, List.intercalate]
    | cons y r =>
      simp only [List.map_cons] at ih ⊢
      show mkS x ++ mkS s ++ Str.join (mkS s) (mkS y :: r.map mkS) = _
      rw [ih, mkS_app, mkS_app]
      simp [List.intercalate]
@[simp] theorem ofString_inj {a b : String} : Str.ofString a = Str.ofString b ↔ a = b := by
  constructor
  · intro h
    rw [Str.ofString_eq_toList, Str.ofString_eq_toList] at h
    have h := congrArg (fun x : Str => x.cps.toList) h
    simp only at h
    have hj : Function.Injective Char.toNat := fun x y e => Char.ext (UInt32.toNat_inj.mp e)
    exact String.toList_inj.mp ((List.map_inj_right (fun x y e => hj e)).mp h)
  · rintro rfl; rfl
theorem ofString_mkS (s : String) : Str.ofString s = mkS (s.toList.map Char.toNat) := Str.ofString_eq_toList s
theorem szO_fit {n : Nat} : szO n = fit n := rfl
/-! places -/
theorem sIx_to (n k : Nat) : HT.sIx n n (some (k : Int)) = min k n := HT.sIx_nat n n k
@[simp] theorem atI_3 {α : Type} {a b c d : α} {l : List α} : atI (a :: b :: c :: d :: l) 3 = some d := by
  have h : (3 : Int) < (a :: b :: c :: d :: l).length := by simp; omega
  simp only [atI, ixN, if_pos h]; simp
@[simp] theorem atI_4 {α : Type} {a b c d e : α} {l : List α} : atI (a :: b :: c :: d :: e :: l) 4 = some e := by
  have h : (4 : Int) < (a :: b :: c :: d :: e :: l).length := by simp; omega
  simp only [atI, ixN, if_pos h]; simp
@[simp] theorem atI_5 {α : Type} {a b c d e f : α} {l : List α} : atI (a :: b :: c :: d :: e :: f :: l) 5 = some f := by
  have h : (5 : Int) < (a :: b :: c :: d :: e :: f :: l).length := by simp; omega
  simp only [atI, ixN, if_pos h]; simp
theorem cutD_drop {xs : List D} {i : Int} (h : 0 ≤ i) : cutD xs (some i) none = xs.drop i.toNat := by
  obtain ⟨k, rfl⟩ := Int.eq_ofNat_of_zero_le h
  unfold cutD
  rw [HT.sIx_none]
  have : HT.sIx xs.length 0 (some (k : Int)) = min k xs.length := HT.sIx_nat _ _ k
  have e2 : ((Int.ofNat k).toNat) = k := rfl
  show (xs.drop (HT.sIx xs.length 0 (some (k : Int)))).take (xs.length - HT.sIx xs.length 0 (some (k : Int))) = xs.drop k
  rw [this]
  by_cases hk : k ≤ xs.length
  · rw [Nat.min_eq_left hk]
    rw [List.take_of_length_le (by simp)]
  · rw [Nat.min_eq_right (by omega), List.drop_of_length_le (Nat.le_refl _), List.drop_of_length_le (by omega)]
    simp
theorem cutD_take {xs : List D} {i : Int} (h : 0 ≤ i) : cutD xs none (some i) = xs.take i.toNat := by
  obtain ⟨k, rfl⟩ := Int.eq_ofNat_of_zero_le h
  unfold cutD
  rw [HT.sIx_none]
  have : HT.sIx xs.length xs.length (some (k : Int)) = min k xs.length := HT.sIx_nat _ _ k
  show (xs.drop 0).take (HT.sIx xs.length xs.length (some (k : Int)) - 0) = xs.take k
  rw [this, List.drop_zero, Nat.sub_zero]
  by_cases hk : k ≤ xs.length
  · rw [Nat.min_eq_left hk]
  · rw [Nat.min_eq_right (by omega), List.take_of_length_le (Nat.le_refl _), List.take_of_length_le (by omega)]
theorem cutD_init {xs : List D} : cutD xs none (some (-1)) = xs.dropLast := by
  unfold cutD
  rw [HT.sIx_none]
  have : HT.sIx xs.length xs.length (some (-1)) = xs.length - 1 := by
    show (if (-1 : Int) < 0 then ((-1 : Int) + (xs.length : Int)).toNat else min (-1 : Int).toNat xs.length) = _
    rw [if_pos (by decide)]
    omega
  rw [this, List.dropLast_eq_take, List.drop_zero, Nat.sub_zero]
theorem atI_last {α : Type} {xs : List α} (h : xs ≠ []) : atI xs (-1) = some (xs.getLast h) := by
  have hl := List.length_pos_iff.mpr h
  unfold atI ixN
  rw [if_neg (by decide), if_pos (by omega)]
  show xs[((-1 : Int) + xs.length).toNat]? = _
  have : ((-1 : Int) + xs.length).toNat = xs.length - 1 := by omega
  rw [this, List.getLast_eq_getElem, List.getElem?_eq_getElem]
theorem atI_last_snoc {α : Type} {xs : List α} {x : α} : atI (xs ++ [x]) (-1) = some x := by
  rw [atI_last (by simp)]
  simp
theorem atI_of_nat {α : Type} {xs : List α} {k : Nat} : atI xs (k : Int) = xs[k]? := by
  unfold atI ixN
  rw [if_pos (by omega)]
  by_cases h : k < xs.length
  · rw [if_pos (by omega)]
    simp
  · rw [if_neg (by omega), List.getElem?_eq_none (by omega)]
    rfl
end
/-! ### data without truth values, dicts, objects: == is = -/
mutual
def plainD : D → Bool
  | .non => true
  | .int _ => true
  | .str _ => true
  | .tup ds => plainDs ds
  | .lst ds => plainDs ds
  | _ => false
def plainDs : List D → Bool
  | [] => true
  | d :: ds => plainD d && plainDs ds
end
mutual
theorem eqD_plain : ∀ {a b : D}, plainD a = true → plainD b = true → (eqD a b = true ↔ a = b)
  | .non, b, _, hb => by cases b <;> simp [eqD, plainD] at hb ⊢
  | .int i, b, _, hb => by cases b <;> simp [eqD, plainD] at hb ⊢
  | .str i, b, _, hb => by cases b <;> simp [eqD, plainD] at hb ⊢
  | .tup xs, b, ha, hb => by
    cases b <;> simp [eqD, plainD] at ha hb ⊢
    exact eqDs_plain ha hb
  | .lst xs, b, ha, hb => by
    cases b <;> simp [eqD, plainD] at ha hb ⊢
    exact eqDs_plain ha hb
  | .bl _, _, ha, _ => by simp [plainD] at ha
  | .fn _, _, ha, _ => by simp [plainD] at ha
  | .dct _, _, ha, _ => by simp [plainD] at ha
  | .obj _ _, _, ha, _ => by simp [plainD] at ha
theorem eqDs_plain : ∀ {a b : List D}, plainDs a = true → plainDs b = true → (eqDs a b = true ↔ a = b)
  | [], b, _, hb => by cases b <;> simp [eqDs]
  | x :: xs, b, ha, hb => by
    cases b with
    | nil => simp [eqDs]
    | cons y ys =>
      simp [eqDs, plainDs] at ha hb ⊢
      rw [eqD_plain ha.1 hb.1, eqDs_plain ha.2 hb.2]
end
theorem eqD_dec {a b : D} (ha : plainD a = true) (hb : plainD b = true) : eqD a b = decide (a = b) := by
  rw [Bool.eq_iff_iff, eqD_plain ha hb, decide_eq_true_iff]
theorem plainDs_all : ∀ {ds : List D}, plainDs ds = ds.all plainD
  | [] => rfl
  | d :: ds => by rw [plainDs, plainDs_all, List.all_cons]
section
variable {ds : List D} {n : Nat} {α : Type} {l : List α} {f : α → D} {b : Bool} {i j : Int} {x y : Str} {xs ys : List D} {d e : D}
@[simp] theorem plainD_non : plainD .non = true := by simp [plainD]
@[simp] theorem plainD_int : plainD (.int i) = true := by simp [plainD]
@[simp] theorem plainD_str : plainD (.str x) = true := by simp [plainD]
@[simp] theorem plainD_tup : plainD (.tup ds) = ds.all plainD := by simp [plainD, plainDs_all]
@[simp] theorem plainD_lst : plainD (.lst ds) = ds.all plainD := by simp [plainD, plainDs_all]
theorem plainD_sign {c : Nat} : plainD (signD c) = true := by simp
@[simp] theorem eqable_tup : eqable (n + 1) (.tup ds) = ds.all (eqable n) := by simp [eqable]
@[simp] theorem eqable_lst : eqable (n + 1) (.lst ds) = ds.all (eqable n) := by simp [eqable]
theorem eqable_sign {c : Nat} : eqable n (signD c) = true := by simp
theorem all_map_true {p : D → Bool} (h : ∀ a ∈ l, p (f a) = true) : (l.map f).all p = true := by
  rw [List.all_map, List.all_eq_true]
  exact h
@[simp] theorem eqD_int : eqD (.int i) (.int j) = decide (i = j) := by simp [eqD]; rfl
@[simp] theorem eqD_str : eqD (.str x) (.str y) = decide (x = y) := by simp [eqD, str_beq]
@[simp] theorem eqD_bl {a b : Bool} : eqD (.bl a) (.bl b) = decide (a = b) := by cases a <;> cases b <;> simp [eqD]
@[simp] theorem eqD_non : eqD .non .non = true := by simp [eqD]
@[simp] theorem eqD_non_str : eqD .non (.str x) = false := by simp [eqD]
@[simp] theorem eqD_str_non : eqD (.str x) .non = false := by simp [eqD]
@[simp] theorem eqD_int_non : eqD (.int i) .non = false := by simp [eqD]
@[simp] theorem eqD_non_int : eqD .non (.int i) = false := by simp [eqD]
@[simp] theorem eqD_int_str : eqD (.int i) (.str x) = false := by simp [eqD]
@[simp] theorem eqD_str_int : eqD (.str x) (.int i) = false := by simp [eqD]
@[simp] theorem eqD_tup_non : eqD (.tup xs) .non = false := by simp [eqD]
@[simp] theorem eqD_non_tup : eqD .non (.tup xs) = false := by simp [eqD]
@[simp] theorem eqD_lst_non : eqD (.lst xs) .non = false := by simp [eqD]
@[simp] theorem eqD_tup_str : eqD (.tup xs) (.str x) = false := by simp [eqD]
@[simp] theorem eqD_str_tup : eqD (.str x) (.tup xs) = false := by simp [eqD]
@[simp] theorem eqD_tup_int : eqD (.tup xs) (.int i) = false := by simp [eqD]
@[simp] theorem eqD_tup : eqD (.tup xs) (.tup ys) = eqDs xs ys := by simp [eqD]
@[simp] theorem eqD_lst : eqD (.lst xs) (.lst ys) = eqDs xs ys := by simp [eqD]
@[simp] theorem eqD_lst_tup : eqD (.lst xs) (.tup ys) = false := by simp [eqD]
@[simp] theorem eqD_tup_lst : eqD (.tup xs) (.lst ys) = false := by simp [eqD]
@[simp] theorem eqDs_nil : eqDs [] [] = true := by simp [eqDs]
@[simp] theorem eqDs_cons_nil : eqDs (d :: xs) [] = false := by simp [eqDs]
@[simp] theorem eqDs_nil_cons : eqDs [] (d :: xs) = false := by simp [eqDs]
@[simp] theorem eqDs_cons : eqDs (d :: xs) (e :: ys) = (eqD d e && eqDs xs ys) := by simp [eqDs]
/-! ### operators at data -/
@[simp] theorem addD_str : addD (.f, .str x) (.f, .str y) = if fit (x.length + y.length) = true then some (.f, .str (x ++ y)) else none := by
  show (none : Option (M × D)).or ((ifO (szO (x.length + y.length)) (.str (x ++ y))).or _) = _
  rw [szO_fit]
  unfold ifO
  split <;> rfl
theorem addD_ls {m m' : M} (h : lsD (m, .lst xs) = some xs) (h' : lsD (m', .lst ys) = some ys) : addD (m, .lst xs) (m', .lst ys) = if fit (xs.length + ys.length) = true then some (.o .f, .lst (xs ++ ys)) else none := by
  have e1 : on2 inD inD (fun i j => some (.f, .int (i + j))) (m, D.lst xs) (m', D.lst ys) = none := by
    cases m <;> rfl
  have e2 : on2 stD stD (fun i j => ifO (szO (i.length + j.length)) (.str (i ++ j))) (m, D.lst xs) (m', D.lst ys) = none := by
    cases m <;> rfl
  have e4 : on2 tpD tpD (fun xs ys => ifO (szO (xs.length + ys.length)) (.tup (xs ++ ys))) (m, D.lst xs) (m', D.lst ys) = none := by
    cases m <;> rfl
  show (on2 inD inD _ _ _).or ((on2 stD stD _ _ _).or ((on2 lsD lsD _ _ _).or (on2 tpD tpD _ _ _))) = _
  rw [e1, e2, e4]
  show (((lsD (m, .lst xs)).bind fun x => (lsD (m', .lst ys)).bind fun y => newL (szO (x.length + y.length)) (x ++ y)).or none) = _
  rw [h, h']
  show (newL (szO (xs.length + ys.length)) (xs ++ ys)).or none = _
  rw [szO_fit]
  unfold newL
  split <;> rfl
@[simp] theorem addD_ff : addD (.f, .lst xs) (.f, .lst ys) = if fit (xs.length + ys.length) = true then some (.o .f, .lst (xs ++ ys)) else none := addD_ls rfl rfl
@[simp] theorem addD_fo : addD (.f, .lst xs) (.o .f, .lst ys) = if fit (xs.length + ys.length) = true then some (.o .f, .lst (xs ++ ys)) else none := addD_ls rfl rfl
@[simp] theorem addD_of : addD (.o .f, .lst xs) (.f, .lst ys) = if fit (xs.length + ys.length) = true then some (.o .f, .lst (xs ++ ys)) else none := addD_ls rfl rfl
@[simp] theorem addD_oo : addD (.o .f, .lst xs) (.o .f, .lst ys) = if fit (xs.length + ys.length) = true then some (.o .f, .lst (xs ++ ys)) else none := addD_ls rfl rfl
@[simp] theorem addD_tup : addD (.f, .tup xs) (.f, .tup ys) = if fit (xs.length + ys.length) = true then some (.f, .tup (xs ++ ys)) else none := by
  show (none : Option (M × D)).or (none.or (none.or (ifO (szO (xs.length + ys.length)) (.tup (xs ++ ys))))) = _
  rw [szO_fit]
  unfold ifO
  split <;> rfl
theorem repD_at {i : Int} : mulDD (.o .f, .lst xs) (.f, .int i) = if i < 2 ^ 63 ∧ -(2 ^ 63) ≤ i ∧ xs.length * i.toNat ≤ 16777216 then some (.o .f, .lst (List.replicate i.toNat xs).flatten) else none := by
  show (none : Option (M × D)).or ((newL (decide (-(2 ^ 63) ≤ i) && decide (i < 2 ^ 63) && szO (xs.length * i.toNat)) (List.replicate i.toNat xs).flatten).or none) = _
  unfold newL szO
  by_cases h : i < 2 ^ 63 ∧ -(2 ^ 63) ≤ i ∧ xs.length * i.toNat ≤ 16777216
  · have h1 := h.1
    have h2 := h.2.1
    have h3 := h.2.2
    rw [if_pos h, if_pos (by simp only [Bool.and_eq_true, decide_eq_true_eq]; exact ⟨⟨h2, h1⟩, h3⟩)]; rfl
  · rw [if_neg h, if_neg (by simp only [Bool.and_eq_true, decide_eq_true_eq]; exact fun z => h ⟨z.1.2, z.1.1, z.2⟩)]; rfl
theorem mulS_at {i : Int} (h1 : i < 2 ^ 63) (h2 : -(2 ^ 63) ≤ i) (h3 : x.length * i.toNat ≤ 16777216) : mulDD (.f, .str x) (.f, .int i) = some (.f, .str (mulS x i)) := by
  show (none : Option (M × D)).or ((none : Option (M × D)).or (ifO (decide (-(2 ^ 63) ≤ i) && decide (i < 2 ^ 63) && szO (x.length * i.toNat)) (.str (mulS x i)))) = _
  have : (decide (-(2 ^ 63) ≤ i) && decide (i < 2 ^ 63) && szO (x.length * i.toNat)) = true := by
    simp only [Bool.and_eq_true, decide_eq_true_eq]
    exact ⟨⟨h2, h1⟩, decide_eq_true h3⟩
  rw [this]
  rfl
@[simp] theorem lstC_f : lstC [(.f, .lst xs)] = some (.o .f, .lst xs) := rfl
@[simp] theorem lstC_o : lstC [(.o .f, .lst xs)] = some (.o .f, .lst xs) := rfl
@[simp] theorem lstC_t : lstC [(.f, .tup xs)] = some (.o .f, .lst xs) := rfl
@[simp] theorem lstC_d {kvs : List (D × D)} : lstC [(.f, .dct kvs)] = some (.o .f, .lst (kvs.map (·.1))) := rfl
@[simp] theorem lstC_do {kvs : List (D × D)} : lstC [(.o .f, .dct kvs)] = some (.o .f, .lst (kvs.map (·.1))) := rfl
@[simp] theorem lstC_s : lstC [(.f, .str x)] = if fit x.length = true then some (.o .f, .lst (x.cps.toList.map signD)) else none := by
  show (none : Option (M × D)).or ((newL (szO x.length) (x.cps.toList.map signD)).or none) = _
  rw [szO_fit]
  unfold newL
  split <;> rfl
@[simp] theorem tupC_f : tupC [(.f, .lst xs)] = some (.f, .tup xs) := rfl
@[simp] theorem tupC_o : tupC [(.o .f, .lst xs)] = some (.f, .tup xs) := rfl
@[simp] theorem tupC_t : tupC [(.f, .tup xs)] = some (.f, .tup xs) := rfl
@[simp] theorem lenD_str : lenD [(.f, .str x)] = if fit x.length = true then some (.f, .int (x.length : Nat)) else none := by
  show (none : Option (M × D)).or ((ifO (szO x.length) (.int (x.length : Nat))).or none) = _
  rw [szO_fit]
  unfold ifO
  split <;> rfl
@[simp] theorem lenD_df {kvs : List (D × D)} : lenD [(.f, .dct kvs)] = some (.f, .int (kvs.length : Nat)) := rfl
@[simp] theorem lenD_do {kvs : List (D × D)} : lenD [(.o .f, .dct kvs)] = some (.f, .int (kvs.length : Nat)) := rfl
@[simp] theorem sliceD_lf {lo hi : Option Int} : sliceD (.f, .lst xs) lo hi = some (.o .f, .lst (cutD xs lo hi)) := rfl
@[simp] theorem sliceD_lo {lo hi : Option Int} : sliceD (.o .f, .lst xs) lo hi = some (.o .f, .lst (cutD xs lo hi)) := rfl
@[simp] theorem sliceD_t {lo hi : Option Int} : sliceD (.f, .tup xs) lo hi = some (.f, .tup (cutD xs lo hi)) := rfl
@[simp] theorem sliceD_s {lo hi : Option Int} : sliceD (.f, .str x) lo hi = if fit x.length = true then some (.f, .str (cutS x lo hi)) else none := by
  show (if szO x.length then some (M.f, D.str (cutS x lo hi)) else none) = _
  rw [szO_fit]
@[simp] theorem inDD_ss : inDD (.f, .str x) (.f, .str y) = some (.f, .bl (occB x y)) := rfl
@[simp] theorem notInDD_ss : notInDD (.f, .str x) (.f, .str y) = some (.f, .bl (!occB x y)) := rfl
theorem inDD_sq {a : M × D} (hs : stD a = none) (hq : sqD a = some ys) (hd : dcD a = none) : inDD (.f, d) a = if (eqable 59 d && ys.all (eqable 59)) = true then some (.f, .bl (ys.any fun y => eqD y d)) else none := by
  show (on2 stD stD _ (.f, d) a).or ((on2 rdO sqD _ (.f, d) a).or (on2 kyO dcD _ (.f, d) a)) = _
  have e1 : on2 stD stD (fun i j => some (.f, .bl (id (occB i j)))) (.f, d) a = none := by
    unfold on2
    rw [hs]
    cases stD (.f, d) <;> rfl
  have e3 : on2 kyO dcD (fun k kvs => some (.f, .bl (id (valD kvs (dK k)).isSome))) (.f, d) a = none := by
    unfold on2
    rw [hd]
    cases kyO (.f, d) <;> rfl
  rw [e1, e3]
  show ((sqD a).bind fun y => ifO (eqable 59 d && y.all (eqable 59)) (.bl (id (y.any fun z => eqD z d)))).or none = _
  rw [hq]
  show (ifO (eqable 59 d && ys.all (eqable 59)) (.bl (id (ys.any fun z => eqD z d)))).or none = _
  unfold ifO
  split <;> rfl
theorem notInDD_sq {a : M × D} (hs : stD a = none) (hq : sqD a = some ys) (hd : dcD a = none) : notInDD (.f, d) a = if (eqable 59 d && ys.all (eqable 59)) = true then some (.f, .bl (!(ys.any fun y => eqD y d))) else none := by
  show (on2 stD stD _ (.f, d) a).or ((on2 rdO sqD _ (.f, d) a).or (on2 kyO dcD _ (.f, d) a)) = _
  have e1 : on2 stD stD (fun i j => some (.f, .bl (not (occB i j)))) (.f, d) a = none := by
    unfold on2
    rw [hs]
    cases stD (.f, d) <;> rfl
  have e3 : on2 kyO dcD (fun k kvs => some (.f, .bl (not (valD kvs (dK k)).isSome))) (.f, d) a = none := by
    unfold on2
    rw [hd]
    cases kyO (.f, d) <;> rfl
  rw [e1, e3]
  show ((sqD a).bind fun y => ifO (eqable 59 d && y.all (eqable 59)) (.bl (not (y.any fun z => eqD z d)))).or none = _
  rw [hq]
  show (ifO (eqable 59 d && ys.all (eqable 59)) (.bl (not (ys.any fun z => eqD z d)))).or none = _
  unfold ifO
  split <;> rfl
@[simp] theorem inDD_t : inDD (.f, d) (.f, .tup ys) = if (eqable 59 d && ys.all (eqable 59)) = true then some (.f, .bl (ys.any fun y => eqD y d)) else none := inDD_sq rfl rfl rfl
@[simp] theorem inDD_lf : inDD (.f, d) (.f, .lst ys) = if (eqable 59 d && ys.all (eqable 59)) = true then some (.f, .bl (ys.any fun y => eqD y d)) else none := inDD_sq rfl rfl rfl
@[simp] theorem inDD_lo : inDD (.f, d) (.o .f, .lst ys) = if (eqable 59 d && ys.all (eqable 59)) = true then some (.f, .bl (ys.any fun y => eqD y d)) else none := inDD_sq rfl rfl rfl
@[simp] theorem notInDD_t : notInDD (.f, d) (.f, .tup ys) = if (eqable 59 d && ys.all (eqable 59)) = true then some (.f, .bl (!(ys.any fun y => eqD y d))) else none := notInDD_sq rfl rfl rfl
@[simp] theorem notInDD_lf : notInDD (.f, d) (.f, .lst ys) = if (eqable 59 d && ys.all (eqable 59)) = true then some (.f, .bl (!(ys.any fun y => eqD y d))) else none := notInDD_sq rfl rfl rfl
@[simp] theorem notInDD_lo : notInDD (.f, d) (.o .f, .lst ys) = if (eqable 59 d && ys.all (eqable 59)) = true then some (.f, .bl (!(ys.any fun y => eqD y d))) else none := notInDD_sq rfl rfl rfl
@[simp] theorem inDD_dfs {kvs : List (D × D)} : inDD (.f, .str x) (.f, .dct kvs) = some (.f, .bl (valD kvs (.str x)).isSome) := rfl
@[simp] theorem inDD_dos {kvs : List (D × D)} : inDD (.f, .str x) (.o .f, .dct kvs) = some (.f, .bl (valD kvs (.str x)).isSome) := rfl
@[simp] theorem notInDD_dfs {kvs : List (D × D)} : notInDD (.f, .str x) (.f, .dct kvs) = some (.f, .bl (!(valD kvs (.str x)).isSome)) := rfl
@[simp] theorem notInDD_dos {kvs : List (D × D)} : notInDD (.f, .str x) (.o .f, .dct kvs) = some (.f, .bl (!(valD kvs (.str x)).isSome)) := rfl
@[simp] theorem inDD_dfi {kvs : List (D × D)} : inDD (.f, .int i) (.f, .dct kvs) = some (.f, .bl (valD kvs (.int i)).isSome) := rfl
@[simp] theorem inDD_doi {kvs : List (D × D)} : inDD (.f, .int i) (.o .f, .dct kvs) = some (.f, .bl (valD kvs (.int i)).isSome) := rfl
@[simp] theorem isD_ap {f : Bool → Bool} {a : M × D} : isD f a (.f, .non) = some (.f, .bl (f (isNonD a))) := rfl
@[simp] theorem isNonD_non : isNonD (.f, .non) = true := rfl
@[simp] theorem isNonD_t : isNonD (.f, .tup xs) = false := rfl
@[simp] theorem isNonD_l {m : M} : isNonD (m, .lst xs) = false := by cases m <;> rfl
@[simp] theorem isNonD_i : isNonD (.f, .int i) = false := rfl
@[simp] theorem isNonD_s : isNonD (.f, .str x) = false := rfl
@[simp] theorem isNonD_ob {m : M} {C : Addr} {fs : List (Str × D)} : isNonD (m, .obj C fs) = false := by cases m <;> rfl
@[simp] theorem isNonD_d {m : M} {kvs : List (D × D)} : isNonD (m, .dct kvs) = false := by cases m <;> rfl
@[simp] theorem truD_bl : truD (.f, .bl b) = some b := rfl
@[simp] theorem truD_non : truD (.f, .non) = some false := rfl
@[simp] theorem truD_t : truD (.f, .tup xs) = some (!xs.isEmpty) := rfl
@[simp] theorem truD_lf : truD (.f, .lst xs) = some (!xs.isEmpty) := rfl
@[simp] theorem truD_lo : truD (.o .f, .lst xs) = some (!xs.isEmpty) := rfl
@[simp] theorem negD_int : negD (.f, .int i) = some (.f, .int (-i)) := rfl
@[simp] theorem tyN_non : tyN (.f, .non) = some "NoneType" := rfl
@[simp] theorem tyN_bl : tyN (.f, .bl b) = some "bool" := rfl
@[simp] theorem tyN_int : tyN (.f, .int i) = some "int" := rfl
@[simp] theorem tyN_str : tyN (.f, .str x) = some "str" := rfl
@[simp] theorem tyN_tup : tyN (.f, .tup xs) = some "tuple" := rfl
@[simp] theorem tyN_lf : tyN (.f, .lst xs) = some "list" := rfl
@[simp] theorem tyN_lo : tyN (.o .f, .lst xs) = some "list" := rfl
@[simp] theorem tyN_df {kvs : List (D × D)} : tyN (.f, .dct kvs) = some "dict" := rfl
@[simp] theorem tyN_do {kvs : List (D × D)} : tyN (.o .f, .dct kvs) = some "dict" := rfl
@[simp] theorem tyN_ob {m : M} {C : Addr} {fs : List (Str × D)} : tyN (m, .obj C fs) = none := by
  cases m with
  | f => rfl
  | r ms => rfl
  | o c => cases c <;> rfl
@[simp] theorem obD_f {C : Addr} {fs : List (Str × D)} : obD (.f, .obj C fs) = some (C, fs) := rfl
@[simp] theorem obD_r {C : Addr} {fs : List (Str × D)} {ms : List M} : obD (.r ms, .obj C fs) = if allM ms then some (C, fs) else none := rfl
@[simp] theorem obD_tup : obD (.f, .tup xs) = none := rfl
@[simp] theorem allM_nil : allM [] = true := rfl
@[simp] theorem allM_cons {ms : List M} : allM (.f :: ms) = allM ms := rfl
@[simp] theorem allM_rep : allM (List.replicate n .f) = true := by
  induction n with
  | zero => rfl
  | succ n ih => simpa [List.replicate_succ] using ih
theorem isiO_ap {ns : List String} {own : Addr → Option Bool} {a : M × D} : isiO ns own a = match tyN a with
  | some t => some (.f, .bl (ns.any (tyIs t)))
  | none => (obD a).bind fun c => (own c.1).map fun b => (.f, .bl b) := rfl
theorem isiC_ap {own : Addr → Option Bool} {a : M × D} : isiC own a = match tyN a with
  | some t => some (.f, .bl false)
  | none => (obD a).bind fun c => (own c.1).map fun b => (.f, .bl b) := rfl
theorem fldO_ap {ok : Addr → Bool} {f : Str} {a : M × D} : fldO ok f a = (obD a).bind fun c => if ok c.1 then (c.2.lookup f).map fun d => (.f, d) else none := rfl
@[simp] theorem blsD_map {l : List α} {f : α → Bool} : blsD (l.map fun a => .bl (f a)) = some (l.map f) := by
  induction l with
  | nil => rfl
  | cons a l ih => simp [blsD, ih]
@[simp] theorem strsD_map {l : List α} {f : α → Str} : strsD (l.map fun a => .str (f a)) = some (l.map f) := by
  induction l with
  | nil => rfl
  | cons a l ih => simp [strsD, ih]
theorem strsD_strs {l : List Str} : strsD (l.map .str) = some l := by
  have := strsD_map (l := l) (f := id)
  simpa using this
theorem strsD_sign {l : List Nat} : strsD (l.map signD) = some (l.map fun c => mkS [c]) := strsD_map (l := l) (f := fun c => mkS [c])
@[simp] theorem allD_o {xs : List D} : allD [(.o .f, .lst xs)] = (blsD xs).map fun bs => (.f, .bl (bs.all id)) := rfl
@[simp] theorem anyD_o {xs : List D} : anyD [(.o .f, .lst xs)] = (blsD xs).map fun bs => (.f, .bl (bs.any id)) := rfl
@[simp] theorem allD_f {xs : List D} : allD [(.f, .lst xs)] = (blsD xs).map fun bs => (.f, .bl (bs.all id)) := rfl
@[simp] theorem anyD_f {xs : List D} : anyD [(.f, .lst xs)] = (blsD xs).map fun bs => (.f, .bl (bs.any id)) := rfl
@[simp] theorem blsD_nil : blsD [] = some [] := rfl
@[simp] theorem blsD_cons {r : List D} : blsD (.bl b :: r) = (blsD r).map (b :: ·) := rfl
@[simp] theorem strsD_nil : strsD [] = some [] := rfl
@[simp] theorem strsD_cons {r : List D} : strsD (.str x :: r) = (strsD r).map (x :: ·) := rfl
@[simp] theorem all_map_id {l : List α} {f : α → Bool} : (l.map f).all id = l.all f := by simp [List.all_map, Function.comp_def]
@[simp] theorem any_map_id {l : List α} {f : α → Bool} : (l.map f).any id = l.any f := by simp [List.any_map, Function.comp_def]
end
section
variable {x a : Str} {i : Int} {ds xs : List D}
@[simp] theorem putIx_ap {ρ : List Sl} {i : Nat} {kd d : D} : putIx ρ i kd d = (match ρ[i]? with
  | some (.va q (.o .f) (.lst ds)) => (inD (.f, kd)).bind fun k => (ixN ds.length k).map fun j => ρ.set i (.va q (.o .f) (.lst (ds.set j d)))
  | some (.va q (.o .f) (.dct kvs)) => (keyOf kd).bind fun _ => if fit (kvs.length + 1) = true then some (ρ.set i (.va q (.o .f) (.dct (putD kvs kd d)))) else none
  | _ => none) := by
  unfold putIx
  simp only [fit_lt] <;> rfl
@[simp] theorem keyOf_str : keyOf (.str x) = some (.inr x) := rfl
@[simp] theorem keyOf_int : keyOf (.int i) = some (.inl i) := rfl
theorem newL_true : newL true xs = some (.o .f, .lst xs) := rfl
theorem sortedD_d {kvs : List (D × D)} {xs : List Str} (h : strsD (kvs.map (·.1)) = some xs) (hl : xs.length < 64) : sortedD [(.f, .dct kvs)] = some (.o .f, .lst ((sortS xs).map .str)) := by
  show (none : Option (M × D)).or (((strsD (kvs.map (·.1))).bind fun xs => newL (lt64 xs.length) ((sortS xs).map .str)).or none) = _
  rw [h]
  show (none : Option (M × D)).or ((newL (lt64 xs.length) ((sortS xs).map .str)).or none) = _
  rw [show lt64 xs.length = true from decide_eq_true hl]
  rfl
theorem sortedD_s {z : Str} (hl : z.length < 64) : sortedD [(.f, .str z)] = some (.o .f, .lst ((sortS (z.cps.toList.map fun c => mkS [c])).map .str)) := by
  show (none : Option (M × D)).or ((none : Option (M × D)).or (newL (lt64 z.length) ((sortS (z.cps.toList.map fun c => mkS [c])).map .str))) = _
  rw [show lt64 z.length = true from decide_eq_true hl]
  rfl
theorem sortedD_l {m : M} {ds : List D} {xs : List Str} (hm : lsD (m, .lst ds) = some ds) (h : strsD ds = some xs) (hl : xs.length < 64) : sortedD [(m, .lst ds)] = some (.o .f, .lst ((sortS xs).map .str)) := by
  have e : sortedD [(m, .lst ds)] = (((lsD (m, .lst ds)).bind fun ds => (strsD ds).bind fun xs => newL (lt64 xs.length) ((sortS xs).map .str))).or ((srtK [(m, .lst ds)]).or (srtS [(m, .lst ds)])) := rfl
  rw [e, hm]
  show ((strsD ds).bind fun xs => newL (lt64 xs.length) ((sortS xs).map .str)).or _ = _
  rw [h]
  show (newL (lt64 xs.length) ((sortS xs).map .str)).or _ = _
  rw [show lt64 xs.length = true from decide_eq_true hl]
  rfl
theorem joinD_ap {x : M × D} {ys : List Str} (h : sqD x = some ds) (h2 : strsD ds = some ys) (h3 : (ys.map (·.length)).sum + ys.length * a.length ≤ 16777216) : joinD a x = some (.f, .str (Txt.join a ys)) := by
  show ((sqD x).bind fun ds => (strsD ds).bind fun ys => ifO (decide ((ys.map (·.length)).sum + ys.length * a.length ≤ 16777216)) (.str (Txt.join a ys))) = _
  rw [h]
  show ((strsD ds).bind fun ys => ifO (decide ((ys.map (·.length)).sum + ys.length * a.length ≤ 16777216)) (.str (Txt.join a ys))) = _
  rw [h2]
  show ifO (decide ((ys.map (·.length)).sum + ys.length * a.length ≤ 16777216)) (.str (Txt.join a ys)) = _
  rw [decide_eq_true h3]
  rfl
end
/-! ### tests of numbers, shown by omega -/
theorem dec_le {i j : Int} (h : i ≤ j) : decide (i ≤ j) = true := decide_eq_true h
theorem dec_le' {i j : Int} (h : j < i) : decide (i ≤ j) = false := decide_eq_false (by omega)
theorem dec_lt {i j : Int} (h : i < j) : decide (i < j) = true := decide_eq_true h
theorem dec_lt' {i j : Int} (h : j ≤ i) : decide (i < j) = false := decide_eq_false (by omega)
theorem dec_eq {i j : Int} (h : i = j) : decide (i = j) = true := decide_eq_true h
theorem dec_ne {i j : Int} (h : i ≠ j) : decide (i = j) = false := decide_eq_false h
/-! ### what a call's frame gives back -/
section
variable {ρ : List Sl} {m : M} {d : D} {j i : Nat} {p : Option Nat} {s : Sl} {ss : List (Option Nat)}
@[simp] theorem wipe_eq {vs : List Nat} : wipeSl ρ vs = ρ.mapIdx fun i s => if vs.contains i then .no else s := rfl
@[simp] theorem apart_nil : apart [] = true := rfl
@[simp] theorem apart_none {r : List (Option Nat)} : apart (none :: r) = apart r := rfl
@[simp] theorem apart_some {k : Nat} {r : List (Option Nat)} : apart (some k :: r) = (!r.contains (some k) && apart r) := rfl
@[simp] theorem allNone_nil : allNone [] = true := rfl
@[simp] theorem allNone_none {r : List (Option Nat)} : allNone (none :: r) = allNone r := rfl
@[simp] theorem allNone_some {k : Nat} {r : List (Option Nat)} : allNone (some k :: r) = false := rfl
@[simp] theorem backs_ap {as' : List (M × D)} : backs ρ ss as' = ρ.mapIdx (backSl ss as') := rfl
def backK (as' : List (M × D)) (s : Sl) : Option Nat → Sl
  | none => s
  | some j => (match s with
    | .va p _ _ => (match as'[j]? with
      | some a => .va p a.1 a.2
      | none => .no)
    | .no => .no
    | .xn a b c fs => .xn a b c fs)
@[simp] theorem backK_none {as' : List (M × D)} : backK as' s none = s := rfl
@[simp] theorem backK_va {as' : List (M × D)} : backK as' (.va p m d) (some j) = (match as'[j]? with
      | some a => .va p a.1 a.2
      | none => .no) := rfl
@[simp] theorem backK_no {as' : List (M × D)} : backK as' .no (some j) = .no := rfl
@[simp] theorem backSl_ap {as' : List (M × D)} : backSl ss as' i s = backK as' s (ss.findIdx? (· == some i)) := by
  unfold backSl
  cases ss.findIdx? (· == some i) with
  | none => cases s <;> rfl
  | some j => cases s <;> rfl
def outK (j : Nat) (o : Option (M × D)) : Option Sl → Option (M × D)
  | some (.va (some j') m d) => if j' = j then some (m, d) else o
  | some (.va none _ _) => o
  | some .no => o
  | some (.xn _ _ _ _) => o
  | none => o
@[simp] theorem outK_s (o : Option (M × D)) (j' : Nat) (m : M) (d : D) : outK j o (some (.va (some j') m d)) = if j' = j then some (m, d) else o := rfl
@[simp] theorem outK_n (o : Option (M × D)) (m : M) (d : D) : outK j o (some (.va none m d)) = o := rfl
@[simp] theorem outK_no (o : Option (M × D)) : outK j o (some .no) = o := rfl
def outM : M × D → Option (M × D)
  | (.f, d) => some (.f, d)
  | (.o _, _) => none
  | (.r _, _) => none
@[simp] theorem outM_f : outM (.f, d) = some (.f, d) := rfl
@[simp] theorem outM_o {c : M} : outM (.o c, d) = none := rfl
@[simp] theorem outM_r {ms : List M} : outM (.r ms, d) = none := rfl
@[simp] theorem outAt_ap {a : M × D} : outAt ρ j a = outK j (outM a) (ρ[j]?) := by
  obtain ⟨m, d⟩ := a
  unfold outAt
  cases ρ[j]? with
  | none => cases m <;> rfl
  | some s =>
    cases s with
    | va p m2 d2 =>
      cases p with
      | none => cases m <;> rfl
      | some j' => cases m <;> rfl
    | no => cases m <;> rfl
    | xn a b c fs => cases m <;> rfl
@[simp] theorem noD_f : noD .f d = true := by unfold noD; rfl
@[simp] theorem noD_lst {ds : List D} : noD (.o .f) (.lst ds) = true := by
  unfold noD
  simp
@[simp] theorem noD_tup {ds : List D} : noD (.o .f) (.tup ds) = true := by
  unfold noD
  simp
@[simp] theorem noD_obj {ms : List M} {C : Addr} {fs : List (Str × D)} : noD (.r ms) (.obj C fs) = noDs ms (fs.map (·.2)) := by
  show noD (.r ms) (.obj C fs) = _
  conv => lhs; unfold noD
@[simp] theorem noDs_nil {ds : List D} : noDs [] ds = true := by unfold noDs; rfl
@[simp] theorem noDs_cons {ms : List M} {ds : List D} : noDs (m :: ms) (d :: ds) = (noD m d && noDs ms ds) := by
  conv => lhs; unfold noDs
@[simp] theorem noDs_emp : noDs [m] [] = true := by unfold noDs; rfl
@[simp] theorem frzDK_r {q : Bool} {ms : List M} {C : Addr} {fs : List (Str × D)} : frzDK (.ok q .t (.r ms) (.obj C fs) ρ) = if noDs ms (fs.map (·.2)) then .ok q .t .f (.obj C fs) ρ else .no := by
  show (if noD (.r ms) (.obj C fs) then _ else _) = _
  rw [noD_obj]
end
/-! ### comprehensions -/
section
variable {vs : List Nat} {g : D → List Sl → Option (List Sl)} {tt : List Sl → BO} {te : List Sl → EO} {ρ : List Sl}
/-- what a comprehension leaves: its own names are wiped -/
def lcK (vs : List Nat) (x : Option (List D × List Sl)) : EO := match x with
  | some (acc, ρ2) => .ok false .t (.o .f) (.lst acc) (wipeSl ρ2 vs)
  | none => .no
def IO.bindE (x : IO) (f : List D → List Sl → EO) : KeepT f EO := match x with
  | .ok _ ds ρ1 => f ds ρ1
  | .ex C fs ρ1 => .ex C fs ρ1
  | .no => .no
@[simp] theorem io_bindE_ok {p : Bool} {ds : List D} {ρ : List Sl} {f} : (IO.ok p ds ρ).bindE f = f ds ρ := rfl
@[simp] theorem lcE_ap {it : List Sl → IO} : lcE vs it g tt te ρ = (it ρ).bindE fun ds ρ1 => lcK vs (lcL vs g tt te ds [] (wipeSl ρ1 vs)) := rfl
@[simp] theorem lcK_some {acc : List D} {ρ2 : List Sl} : lcK vs (some (acc, ρ2)) = .ok false .t (.o .f) (.lst acc) (wipeSl ρ2 vs) := rfl
def lcR (vs : List Nat) (x : EO) : Option (Option D × List Sl) := match x with
  | .ok _ .t .f e ρ3 => some (some e, wipeSl ρ3 vs)
  | _ => none
def lcB (vs : List Nat) (te : List Sl → EO) (x : BO) : Option (Option D × List Sl) := match x with
  | .ok _ true ρ2 => lcR vs (te ρ2)
  | .ok _ false ρ2 => some (none, wipeSl ρ2 vs)
  | _ => none
@[simp] theorem lcR_ok {q : Bool} {e : D} : lcR vs (.ok q .t .f e ρ) = some (some e, wipeSl ρ vs) := rfl
@[simp] theorem lcB_t {q : Bool} : lcB vs te (.ok q true ρ) = lcR vs (te ρ) := rfl
@[simp] theorem lcB_f {q : Bool} : lcB vs te (.ok q false ρ) = some (none, wipeSl ρ vs) := rfl
theorem lcB_b {q b : Bool} : lcB vs te (.ok q b ρ) = if b then lcR vs (te ρ) else some (none, wipeSl ρ vs) := by cases b <;> rfl
/-- one turn of a comprehension -/
def lcStep (vs : List Nat) (g : D → List Sl → Option (List Sl)) (tt : List Sl → BO) (te : List Sl → EO) (d : D) (ρ : List Sl) : Option (Option D × List Sl) := (g d ρ).bind fun ρ1 => lcB vs te (tt ρ1)
@[simp] theorem lcStep_ap {d : D} : lcStep vs g tt te d ρ = (g d ρ).bind fun ρ1 => lcB vs te (tt ρ1) := rfl
@[simp] theorem lcL_nil {acc : List D} : lcL vs g tt te [] acc ρ = some (acc, ρ) := rfl
theorem lcL_cons {d : D} {ds acc : List D} {o : Option D} {ρ' : List Sl} (h : lcStep vs g tt te d ρ = some (o, ρ')) (hl : acc.length < 16777216) : lcL vs g tt te (d :: ds) acc ρ = lcL vs g tt te ds (acc ++ o.toList) ρ' := by
  unfold lcStep at h
  obtain ⟨ρ1, e1, h⟩ := Option.bind_eq_some_iff.mp h
  show (match g d ρ with
    | none => none
    | some ρ1 => match tt ρ1 with
      | .ok _ true ρ2 => (match te ρ2 with
        | .ok _ .t .f e ρ3 => if acc.length < 16777216 then lcL vs g tt te ds (acc ++ [e]) (wipeSl ρ3 vs) else none
        | _ => none)
      | .ok _ false ρ2 => lcL vs g tt te ds acc (wipeSl ρ2 vs)
      | _ => none) = _
  rw [e1]
  unfold lcB at h
  split at h
  · rename_i ρ2 e2
    unfold lcR at h
    split at h
    · rename_i e3
      cases h
      simp only [e2, e3, if_pos hl]
      rfl
    · cases h
  · rename_i ρ2 e2
    cases h
    simp only [e2]
    simp
  · cases h
/-- a comprehension that changes nothing around it -/
theorem lcL_filter {α : Type} {enc : α → D} {h : α → Option D} : ∀ (l : List α) (acc : List D), (∀ a ∈ l, lcStep vs g tt te (enc a) ρ = some (h a, ρ)) → acc.length + l.length ≤ 16777216 → lcL vs g tt te (l.map enc) acc ρ = some (acc ++ l.filterMap h, ρ)
  | [], acc, _, _ => by simp
  | a :: l, acc, hs, hl => by
    simp only [List.length_cons] at hl
    rw [List.map_cons, lcL_cons (hs a List.mem_cons_self) (by omega), lcL_filter l _ (fun a m => hs a (List.mem_cons_of_mem _ m)) (by cases h a <;> simp <;> omega)]
    cases e : h a <;> simp [e]
theorem lcL_map {α : Type} {enc : α → D} {h : α → D} (l : List α) (hs : ∀ a ∈ l, lcStep vs g tt te (enc a) ρ = some (some (h a), ρ)) (hl : l.length ≤ 16777216) : lcL vs g tt te (l.map enc) [] ρ = some (l.map h, ρ) := by
  have := lcL_filter (vs := vs) (g := g) (tt := tt) (te := te) (ρ := ρ) (enc := enc) (h := fun a => some (h a)) l [] hs (by simpa using hl)
  rw [this]
  simp
/-- a comprehension whose turns change a state -/
theorem lcL_state {α : Type} {enc : α → D} {R : List Sl → Prop} {P : D → Prop} : ∀ (l : List α) (acc : List D) (ρ : List Sl), R ρ → (∀ a ∈ l, ∀ ρ, R ρ → ∃ e ρ', lcStep vs g tt te (enc a) ρ = some (some e, ρ') ∧ R ρ' ∧ P e) →
    acc.length + l.length ≤ 16777216 → ∃ r ρ', lcL vs g tt te (l.map enc) acc ρ = some (acc ++ r, ρ') ∧ R ρ' ∧ r.length = l.length ∧ ∀ e ∈ r, P e
  | [], acc, ρ, h, _, _ => ⟨[], ρ, by simp, h, rfl, by simp⟩
  | a :: l, acc, ρ, h, hs, hl => by
    obtain ⟨e, ρ1, e1, h3, h4⟩ := hs a List.mem_cons_self ρ h
    simp only [List.length_cons] at hl
    obtain ⟨r, ρ', e2, h5, h6, h7⟩ := lcL_state l (acc ++ [e]) _ h3 (fun a m => hs a (List.mem_cons_of_mem _ m)) (by simp; omega)
    refine ⟨e :: r, ρ', ?_, h5, by simp [h6], ?_⟩
    · rw [List.map_cons, lcL_cons e1 (by omega)]
      show lcL vs g tt te (l.map enc) (acc ++ [e]) ρ1 = _
      rw [e2]
      simp
    · intro x hx
      rcases List.mem_cons.mp hx with rfl | hx
      · exact h4
      · exact h7 x hx
end
/-! ### dict comprehensions -/
section
variable {vs : List Nat} {g : D → List Sl → Option (List Sl)} {tt : List Sl → BO} {tk tv : List Sl → EO} {ρ : List Sl}
def dcK (vs : List Nat) (x : Option (List (D × D) × List Sl)) : EO := match x with
  | some (acc, ρ2) => .ok false .t (.o .f) (.dct acc) (wipeSl ρ2 vs)
  | none => .no
@[simp] theorem dcE_ap {it : List Sl → IO} : dcE vs it g tt tk tv ρ = (it ρ).bindE fun ds ρ1 => dcK vs (dcL vs g tt tk tv ds [] (wipeSl ρ1 vs)) := rfl
@[simp] theorem dcK_some {acc : List (D × D)} {ρ2 : List Sl} : dcK vs (some (acc, ρ2)) = .ok false .t (.o .f) (.dct acc) (wipeSl ρ2 vs) := rfl
def dcV (vs : List Nat) (kd : D) (x : EO) : Option ((D × D) × List Sl) := match keyOf kd, x with
  | some _, .ok _ .t .f e ρ4 => some ((kd, e), wipeSl ρ4 vs)
  | _, _ => none
def dcR (vs : List Nat) (tv : List Sl → EO) (x : EO) : Option ((D × D) × List Sl) := match x with
  | .ok _ .t .f kd ρ3 => dcV vs kd (tv ρ3)
  | _ => none
/-- one turn, nothing left out -/
def dcStep (vs : List Nat) (g : D → List Sl → Option (List Sl)) (tk tv : List Sl → EO) (d : D) (ρ : List Sl) : Option ((D × D) × List Sl) := (g d ρ).bind fun ρ1 => dcR vs tv (tk ρ1)
@[simp] theorem dcR_ok {q : Bool} {e : D} : dcR vs tv (.ok q .t .f e ρ) = dcV vs e (tv ρ) := rfl
@[simp] theorem dcV_s {x : Str} {q : Bool} {e : D} : dcV vs (.str x) (.ok q .t .f e ρ) = some ((.str x, e), wipeSl ρ vs) := rfl
@[simp] theorem dcV_i {x : Int} {q : Bool} {e : D} : dcV vs (.int x) (.ok q .t .f e ρ) = some ((.int x, e), wipeSl ρ vs) := rfl
@[simp] theorem dcStep_ap {d : D} : dcStep vs g tk tv d ρ = (g d ρ).bind fun ρ1 => dcR vs tv (tk ρ1) := rfl
theorem dcL_cons {d : D} {ds : List D} {acc : List (D × D)} {kv : D × D} {ρ' : List Sl} (h : dcStep vs g tk tv d ρ = some (kv, ρ')) (hl : acc.length < 16777216) : dcL vs g yesB tk tv (d :: ds) acc ρ = dcL vs g yesB tk tv ds (putD acc kv.1 kv.2) ρ' := by
  unfold dcStep at h
  obtain ⟨ρ1, e1, h⟩ := Option.bind_eq_some_iff.mp h
  unfold dcR at h
  split at h
  · rename_i q kd ρ3 e2
    unfold dcV at h
    split at h
    · rename_i k q4 e ρ4 e3 e4
      cases h
      show (match g d ρ with
        | none => none
        | some ρ1 => match yesB ρ1 with
          | .ok _ true ρ2 => (match tk ρ2 with
            | .ok _ .t .f kd ρ3 => (match keyOf kd, tv ρ3 with
              | some _, .ok _ .t .f e ρ4 => if acc.length < 16777216 then dcL vs g yesB tk tv ds (putD acc kd e) (wipeSl ρ4 vs) else none
              | _, _ => none)
            | _ => none)
          | .ok _ false ρ2 => dcL vs g yesB tk tv ds acc (wipeSl ρ2 vs)
          | _ => none) = _
      rw [e1]
      simp only [yesB_ap, e2, e3, e4, if_pos hl]
    · cases h
  · cases h
theorem putD_length {kvs : List (D × D)} {k v : D} : (putD kvs k v).length ≤ kvs.length + 1 := by
  unfold putD
  split <;> simp
theorem dcL_map {α : Type} {enc : α → D} {h : α → D × D} : ∀ (l : List α) (acc : List (D × D)), (∀ a ∈ l, dcStep vs g tk tv (enc a) ρ = some (h a, ρ)) → acc.length + l.length ≤ 16777216 → dcL vs g yesB tk tv (l.map enc) acc ρ = some (mergeD acc (l.map h), ρ)
  | [], acc, _, _ => rfl
  | a :: l, acc, hs, hl => by
    simp only [List.length_cons] at hl
    have := putD_length (kvs := acc) (k := (h a).1) (v := (h a).2)
    rw [List.map_cons, dcL_cons (hs a List.mem_cons_self) (by omega), dcL_map l _ (fun a m => hs a (List.mem_cons_of_mem _ m)) (by omega)]
    rfl
theorem putD_new {kvs : List (D × D)} {k v : D} (h : ∀ kv ∈ kvs, kv.1 ≠ k) : putD kvs k v = kvs ++ [(k, v)] := by
  unfold putD
  rw [if_neg (by simp; exact fun x hx => h _ hx rfl)]
theorem mergeD_app : ∀ {more acc : List (D × D)}, ((acc ++ more).map (·.1)).Nodup → mergeD acc more = acc ++ more
  | [], acc, _ => by simp [mergeD]
  | kv :: more, acc, h => by
    show mergeD (putD acc kv.1 kv.2) more = _
    rw [putD_new (fun x hx => ?_), mergeD_app (by simpa using h)]
    · simp
    · intro e
      rw [List.map_append, List.nodup_append] at h
      exact h.2.2 x.1 (List.mem_map_of_mem hx) kv.1 (by simp) e
theorem mergeD_nil {more : List (D × D)} (h : (more.map (·.1)).Nodup) : mergeD [] more = more := mergeD_app (acc := []) h
end
/-! ### loops -/
section
variable {tg : D → List Sl → Option (List Sl)} {body : List Sl → SO} {ρ : List Sl}
@[simp] theorem loopS_nil : loopS tg body [] ρ = .nx ρ := rfl
def SO.loop (x : SO) (f : List Sl → SO) : KeepT f SO := match x with
  | .nx ρ2 => f ρ2
  | .ct ρ2 => f ρ2
  | .bk ρ2 => .nx ρ2
  | .rt m d ρ2 => .rt m d ρ2
  | .ex C fs ρ2 => .ex C fs ρ2
  | .no => .no
theorem loopS_cons {d : D} {ds : List D} {ρ1 : List Sl} (h : tg d ρ = some ρ1) : loopS tg body (d :: ds) ρ = (body ρ1).loop (loopS tg body ds) := by
  show (match tg d ρ with
    | none => SO.no
    | some ρ1 => match body ρ1 with
      | .nx ρ2 => loopS tg body ds ρ2
      | .ct ρ2 => loopS tg body ds ρ2
      | .bk ρ2 => .nx ρ2
      | .rt m d ρ2 => .rt m d ρ2
      | .ex C fs ρ2 => .ex C fs ρ2
      | .no => .no) = _
  rw [h]
  rfl
@[simp] theorem so_loop_nx {f} : (SO.nx ρ).loop f = f ρ := rfl
@[simp] theorem so_loop_ct {f} : (SO.ct ρ).loop f = f ρ := rfl
@[simp] theorem so_loop_bk {f} : (SO.bk ρ).loop f = .nx ρ := rfl
@[simp] theorem so_loop_rt {f} {m : M} {d : D} : (SO.rt m d ρ).loop f = .rt m d ρ := rfl
@[simp] theorem so_loop_ex {f} {C : Addr} {fs : List (Str × D)} : (SO.ex C fs ρ).loop f = .ex C fs ρ := rfl
/-- a loop as a fold -/
theorem loop_fold {α σ : Type} {enc : α → D} {R : σ → List Sl → Prop} {f : σ → α → σ} : ∀ (l : List α) (s : σ) (ρ : List Sl), R s ρ → (∀ a ∈ l, ∀ s ρ, R s ρ → ∃ ρ1, tg (enc a) ρ = some ρ1 ∧ ∃ ρ2, (body ρ1 = .nx ρ2 ∨ body ρ1 = .ct ρ2) ∧ R (f s a) ρ2) →
    ∃ ρ', loopS tg body (l.map enc) ρ = .nx ρ' ∧ R (l.foldl f s) ρ'
  | [], s, ρ, h, _ => ⟨ρ, rfl, h⟩
  | a :: l, s, ρ, h, hs => by
    obtain ⟨ρ1, e1, ρ2, e2, h2⟩ := hs a List.mem_cons_self s ρ h
    obtain ⟨ρ', e3, h3⟩ := loop_fold l (f s a) ρ2 h2 fun a m => hs a (List.mem_cons_of_mem _ m)
    refine ⟨ρ', ?_, h3⟩
    rw [List.map_cons, loopS_cons e1]
    rcases e2 with e2 | e2
    · rw [e2]; exact e3
    · rw [e2]; exact e3
/-- a loop that returns at the first hit -/
theorem loop_find {α : Type} {enc : α → D} {hit : α → Bool} {res : α → D} {R R' : List Sl → Prop} : ∀ (l : List α) (ρ : List Sl), R ρ → (∀ a ∈ l, ∀ ρ, R ρ → ∃ ρ1, tg (enc a) ρ = some ρ1 ∧ (hit a = true → ∃ ρ2, body ρ1 = .rt .f (res a) ρ2 ∧ R' ρ2) ∧ (hit a = false → ∃ ρ2, body ρ1 = .nx ρ2 ∧ R ρ2)) →
    (∃ a ρ2, l.find? hit = some a ∧ loopS tg body (l.map enc) ρ = .rt .f (res a) ρ2 ∧ R' ρ2) ∨ (∃ ρ2, l.find? hit = none ∧ loopS tg body (l.map enc) ρ = .nx ρ2 ∧ R ρ2)
  | [], ρ, h, _ => .inr ⟨ρ, rfl, rfl, h⟩
  | a :: l, ρ, h, hs => by
    obtain ⟨ρ1, e1, h1, h2⟩ := hs a List.mem_cons_self ρ h
    rw [List.map_cons, loopS_cons e1]
    cases hh : hit a with
    | true =>
      obtain ⟨ρ2, e2, r⟩ := h1 hh
      exact .inl ⟨a, ρ2, by simp [hh], by rw [e2]; rfl, r⟩
    | false =>
      obtain ⟨ρ2, e2, r⟩ := h2 hh
      rcases loop_find l ρ2 r fun a m => hs a (List.mem_cons_of_mem _ m) with ⟨a', ρ3, f1, f2, f3⟩ | ⟨ρ3, f1, f2, f3⟩
      · exact .inl ⟨a', ρ3, by simp [hh, f1], by rw [e2]; exact f2, f3⟩
      · exact .inr ⟨ρ3, by simp [hh, f1], by rw [e2]; exact f2, f3⟩
/-- a loop by a relation with what is passed -/
theorem loop_along {α : Type} {enc : α → D} {R : List α → List Sl → Prop} {L : List α} (hs : ∀ pre a post ρ, L = pre ++ a :: post → R pre ρ → ∃ ρ1, tg (enc a) ρ = some ρ1 ∧ ∃ ρ2, (body ρ1 = .nx ρ2 ∨ body ρ1 = .ct ρ2) ∧ R (pre ++ [a]) ρ2) :
    ∀ (l pre : List α) (ρ : List Sl), L = pre ++ l → R pre ρ → ∃ ρ', loopS tg body (l.map enc) ρ = .nx ρ' ∧ R L ρ'
  | [], pre, ρ, e, h => ⟨ρ, rfl, by rw [e]; simpa using h⟩
  | a :: l, pre, ρ, e, h => by
    obtain ⟨ρ1, e1, ρ2, e2, h2⟩ := hs pre a l ρ e h
    obtain ⟨ρ', e3, h3⟩ := loop_along hs l (pre ++ [a]) ρ2 (by simpa using e) h2
    refine ⟨ρ', ?_, h3⟩
    rw [List.map_cons, loopS_cons e1]
    rcases e2 with e2 | e2
    · rw [e2]; exact e3
    · rw [e2]; exact e3
variable {cn : List Sl → BO} {n : Nat}
theorem whileS_ap : whileS cn body (n + 1) ρ = (cn ρ).bindS fun b ρ1 => if b then (body ρ1).loop (whileS cn body n) else .nx ρ1 := rfl
@[simp] theorem range_rng1 {k : Int} (h0 : 0 ≤ k) (h1 : k ≤ 16777216) : rng1 [k] = some k := if_pos ⟨by omega, by omega⟩
theorem rng2_ap {i k : Int} (h0 : 0 ≤ i) (h1 : i ≤ 16777216) (h2 : 0 ≤ k) (h3 : k ≤ 16777216) : rng2 [i, k] = some (i, k) := if_pos ⟨by omega, by omega, by omega, by omega⟩
@[simp] theorem intsA_cons {i : Int} {r : List (M × D)} : intsA ((.f, .int i) :: r) = (intsA r).map (i :: ·) := rfl
theorem rangeD_0 {k : Nat} : rangeD 0 (k : Int) = (List.range k).map fun i : Nat => D.int (i : Int) := by
  unfold rangeD
  simp
theorem enumD_eq {α : Type} {l : List α} {f : α → D} : enumD (l.map f) = l.zipIdx.map fun p => .tup [.int (p.2 : Nat), f p.1] := by
  unfold enumD
  apply List.ext_getElem?
  intro i
  simp only [List.getElem?_map, List.length_map, List.getElem?_zipIdx]
  by_cases h : i < l.length
  · rw [List.getElem?_range h, List.getElem?_eq_getElem h]
    simp [List.getD_eq_getElem?_getD, h]
  · rw [List.getElem?_eq_none (by simp; omega), List.getElem?_eq_none (by omega)]
    rfl
end
@[simp] theorem bodyK_ex {as : List (M × D)} {ρ : List Sl} {C : Addr} {fs : List (Str × D)} : bodyK as (.ex C fs ρ) = match outsF ρ 0 as with
    | some as' => .exc C fs as'
    | none => .no := rfl
@[simp] theorem fItems_nil : fItems [] = some [] := rfl
@[simp] theorem fItems_cons {d : D} {r : List (AK × M × D)} : fItems ((.k .t, .f, d) :: r) = (fItems r).map (d :: ·) := rfl
@[simp] theorem pileD_nil {as : List D} {acc : List (Str × D)} : pileD [] as acc = acc := rfl
@[simp] theorem pileD_cons {f : Str} {fs : List Str} {a : D} {as : List D} {acc : List (Str × D)} : pileD (f :: fs) (a :: as) acc = pileD fs as ((f, a) :: acc) := rfl
@[simp] theorem raiseS_ap {ρ : List Sl} {C : Addr} {fns : List Str} {Ts : List Sl → AO} : raiseS C fns Ts ρ = (match Ts ρ with
  | .ok _ its ρ1 => (match fItems its with
    | some ds => if ds.length = fns.length ∧ ds.length ≤ 1000 then .ex C (pileD fns ds []) ρ1 else .no
    | none => .no)
  | .ex C fs ρ1 => .ex C fs ρ1
  | .no => .no) := rfl
section
variable {α : Type} {ρ : List Sl} {l : List α} {f : α → D} {as bs : List (M × D)} {ia ib : List (AK × M × D)}
@[simp] theorem ao_app_ok {p q : Bool} : (AO.ok q ib ρ).app p ia = .ok (p && q) (ia ++ ib) ρ := rfl
@[simp] theorem curs_app : curs ρ (ia ++ ib) = (curs ρ ia).bind fun x => (curs ρ ib).map (x ++ ·) := by
  induction ia with
  | nil => simp
  | cons a r ih =>
    rw [List.cons_append, curs_cons, curs_cons, ih]
    cases curA ρ a <;> cases curs ρ r <;> cases curs ρ ib <;> simp
@[simp] theorem curs_items : curs ρ (l.map (fItem ∘ f)) = some (l.map fun a => ((.f : M), f a)) := by
  induction l with
  | nil => rfl
  | cons a l ih => simp [fItem, ih]
@[simp] theorem allF_app : allF (as ++ bs) = (allF as).bind fun x => (allF bs).map (x ++ ·) := by
  induction as with
  | nil => simp
  | cons a r ih =>
    obtain ⟨m, d⟩ := a
    cases m with
    | f =>
      rw [List.cons_append, allF_cons, allF_cons, ih]
      cases allF r <;> cases allF bs <;> simp
    | o c => rfl
    | r ms => rfl
@[simp] theorem allF_items : allF (l.map fun a => ((.f : M), f a)) = some (l.map f) := by
  induction l with
  | nil => rfl
  | cons a l ih => simp [ih]
end
theorem zipD_map {α β : Type} {f : α → D} {g : β → D} : ∀ (l : List α) (m : List β), zipD (l.map f) (m.map g) = (l.zip m).map fun p => .tup [f p.1, g p.2]
  | [], m => by simp [zipD]
  | a :: l, [] => by simp [zipD]
  | a :: l, b :: m => by simp [zipD, zipD_map l m]
@[simp] theorem lstsA_ff {xs ys : List D} : lstsA [(.k .t, .f, .lst xs), (.k .t, .f, .lst ys)] = some (xs, ys) := rfl
theorem strD_int {i : Int} (h : i.natAbs.log2 < 1920) : strD [(.f, .int i)] = some (.f, .str (toString i : String)) := by
  show ifO (decide (i.natAbs.log2 < 1920)) (.str (toString i : String)) = _
  rw [decide_eq_true h]
  rfl
/-! ### calls of methods, of classes -/
section
variable {ρ : List Sl} {C : Addr} {m : Str} {f : List (M × D) → FO} {To : List Sl → EO} {Ts : List Sl → AO}
theorem methE_ap : methE C m f To Ts ρ = if recvOk C m (To ρ) then callE f (consA To Ts) ρ else .no := rfl
theorem recvOk_ap {p : Bool} {k : RK} {md : M} {d : D} : recvOk C m (.ok p k md d ρ) = match (curR true ρ k md d).bind obD with
    | some (C', fs) => decide (C' = C) && (fs.lookup m).isNone
    | none => false := rfl
end
end FL

namespace FL
open PySem PySem.Spec PyProof.Rows L2
/-! ### what is raised goes on -/
section
variable {p q b : Bool} {ρ : List Sl} {C : Addr} {fs : List (Str × D)}
@[simp] theorem eo_bind_ex {f} : (EO.ex C fs ρ).bind f = .ex C fs ρ := rfl
@[simp] theorem eo_bindB_ex {f} : (EO.ex C fs ρ).bindB f = .ex C fs ρ := rfl
@[simp] theorem eo_bindA_ex {f} : (EO.ex C fs ρ).bindA f = .ex C fs ρ := rfl
@[simp] theorem eo_bindS_ex {f} : (EO.ex C fs ρ).bindS f = .ex C fs ρ := rfl
@[simp] theorem eo_bindI_ex {f} : (EO.ex C fs ρ).bindIK f = .ex C fs ρ := rfl
@[simp] theorem bo_bind_ex {f} : (BO.ex C fs ρ).bind f = .ex C fs ρ := rfl
@[simp] theorem bo_bindB_ex {f} : (BO.ex C fs ρ).bindB f = .ex C fs ρ := rfl
@[simp] theorem bo_bindS_ex {f} : (BO.ex C fs ρ).bindS f = .ex C fs ρ := rfl
@[simp] theorem ao_bind_ex {f} : (AO.ex C fs ρ).bind f = .ex C fs ρ := rfl
@[simp] theorem ao_bindI_ex {f} : (AO.ex C fs ρ).bindIK f = .ex C fs ρ := rfl
@[simp] theorem io_bindL_ex {f} : (IO.ex C fs ρ).bindL f = .ex C fs ρ := rfl
@[simp] theorem io_bindE_ex {f} : (IO.ex C fs ρ).bindE f = .ex C fs ρ := rfl
@[simp] theorem eo_pur_ex : (EO.ex C fs ρ).pur p = .ex C fs ρ := rfl
@[simp] theorem bo_pur_ex : (BO.ex C fs ρ).pur p = .ex C fs ρ := rfl
@[simp] theorem ao_consA_ex {k : RK} {m : M} {d : D} : (AO.ex C fs ρ).consA p k m d = .ex C fs ρ := rfl
end
/-! ### a class called -/
@[simp] theorem makeE_ap {C : Addr} {f : List (M × D) → FO} {Ts : List Sl → AO} {ρ : List Sl} : makeE C f Ts ρ = ((Ts ρ).bind fun p its ρ1 => match lents ρ1 its with
  | none => .no
  | some as => if apart (its.map slotOf) then (f ((.r [], .obj C []) :: as)).made (fun m d as' => .ok (p && allNone (its.map slotOf)) .t m d (backs ρ1 (its.map slotOf) as')) (fun C fs as' => .ex C fs (backs ρ1 (its.map slotOf) as')) else .no) := rfl
@[simp] theorem made_ret {a0 : M × D} {as' : List (M × D)} {k k'} : (FO.ret .f .non (a0 :: as')).made k k' = k a0.1 a0.2 as' := rfl
@[simp] theorem made_exc {C : Addr} {fs : List (Str × D)} {a0 : M × D} {as' : List (M × D)} {k k'} : (FO.exc C fs (a0 :: as')).made k k' = k' C fs as' := rfl
/-- what a frame gives back of one frozen argument -/
theorem outs_one {ρ : List Sl} {d : D} {j : Nat} : ∃ as', outsF ρ j [(.f, d)] = some as' := by
  have : ∃ b, outAt ρ j (.f, d) = some b := by
    rw [outAt_ap]
    show ∃ b, outK j (some (.f, d)) (ρ[j]?) = some b
    unfold outK
    split
    · split <;> exact ⟨_, rfl⟩
    all_goals exact ⟨_, rfl⟩
  obtain ⟨b, e⟩ := this
  exact ⟨[b], by simp [e, -outAt_ap]⟩
theorem eqD_self {d : D} (h : plainD d = true) : eqD d d = true := by
  rw [eqD_dec h h]
  simp
/-- a test by == of what is the same -/
theorem ne_same {a b : M × D} {d : D} (ha : rdO a = some d) (hb : rdO b = some d) (h : plainD d = true) (he : eqable 60 d = true) : neDD a b = some (.f, .bl false) := by
  rw [neDD_ap, ha, hb]
  show (if (eqable 60 d && eqable 60 d) = true then some ((.f : M), D.bl (!eqD d d)) else none) = _
  rw [he, eqD_self h]
  rfl
theorem eq_same {a b : M × D} {d : D} (ha : rdO a = some d) (hb : rdO b = some d) (h : plainD d = true) (he : eqable 60 d = true) : eqDD a b = some (.f, .bl true) := by
  rw [eqDD_ap, ha, hb]
  show (if (eqable 60 d && eqable 60 d) = true then some ((.f : M), D.bl (eqD d d)) else none) = _
  rw [he, eqD_self h]
  rfl
end FL

namespace K02
open PySem PySem.Spec PyProof.Rows L2 FL
def top (i : Nat) : Stmt := PySem.Challenge.pw_tintspans_k02_whole_colours.main.body.getD i (.Pass ⟨0, 0, 0, 0⟩)
abbrev s__law_number : Stmt := top 41
abbrev s__law_take : Stmt := top 42
abbrev s__law_pick : Stmt := top 43
abbrev s__law_deed : Stmt := top 44
abbrev s__law_told : Stmt := top 45
abbrev s__law_row : Stmt := top 47
abbrev s__law_done : Stmt := top 48
abbrev s__law_line : Stmt := top 49
abbrev s__law_text : Stmt := top 50
abbrev s_BadBook___init__ : Stmt := inClass (top 3) 0
abbrev s_is_row : Stmt := top 9
abbrev s_is_name : Stmt := top 11
abbrev s_is_deed : Stmt := top 25
abbrev s_are_signs : Stmt := top 23
abbrev s_are_nexts : Stmt := top 24
abbrev s_check_mode : Stmt := top 22
abbrev s_kept : Stmt := top 21
abbrev s_is_number : Stmt := top 10
abbrev s_Book___init__ : Stmt := inClass (top 20) 0
abbrev s__law_book : Stmt := top 46
abbrev s__law_signs : Stmt := top 51
abbrev s__law_lines : Stmt := top 52
abbrev s_spans : Stmt := top 35
abbrev s_check_book : Stmt := top 26
abbrev s_BadText___init__ : Stmt := inClass (top 4) 0
abbrev s_is_line : Stmt := top 30
abbrev s_check_lines : Stmt := top 31
abbrev s_Book_row : Stmt := inClass (top 20) 2
abbrev s_Book_done : Stmt := inClass (top 20) 4
abbrev s_Book_step : Stmt := inClass (top 20) 3
abbrev s_Book_ended : Stmt := inClass (top 20) 5
abbrev s_coloured : Stmt := top 33
abbrev s_colour_text : Stmt := top 34
abbrev s_write_spans : Stmt := top 37
abbrev s_BadName___init__ : Stmt := inClass (top 5) 0
abbrev s_is_paint : Stmt := top 39
abbrev s_painted : Stmt := top 38
abbrev s__law_spread : Stmt := top 53
abbrev s_is_mode : Stmt := top 28
abbrev s_is_stack : Stmt := top 27
abbrev s_check_stack : Stmt := top 29
abbrev s_colour_line : Stmt := top 32
abbrev s_law : Stmt := top 54
structure Cs where
  (BadBook BadText BadName Book : Addr)
def okF_deep (c : Cs) (C : Addr) : Bool := C == c.Book
def okF_first (c : Cs) (C : Addr) : Bool := C == c.Book
def okF_modes (c : Cs) (C : Addr) : Bool := C == c.Book
def okF_signs (c : Cs) (C : Addr) : Bool := C == c.Book
def own_no (c : Cs) (C : Addr) : Option Bool := if C == c.Book then some false else none
def own_Book (c : Cs) (C : Addr) : Option Bool := if C == c.Book then some true else none
def okX_mode (c : Cs) (C : Addr) : Bool := C == c.BadBook
def okX_name (c : Cs) (C : Addr) : Bool := C == c.BadName
def okX_number (c : Cs) (C : Addr) : Bool := C == c.BadBook || C == c.BadText
def okX_part (c : Cs) (C : Addr) : Bool := C == c.BadBook
def ex_BadText (c : Cs) (C : Addr) : Option Bool := if C == c.BadBook then some false else if C == c.BadText then some true else if C == c.BadName then some false else none
structure Facts (K : PySem.W.Frag) (mg : Str → Option Value) (c : Cs) where
  a__law_number : Addr
  fd__law_number : FuncData
  F__law_number : Fun K "_law_number" "_law_number" s__law_number a__law_number fd__law_number
  b__law_number : Binds K fd__law_number ["script", "index"] []
  g__law_number : mg "_law_number" = some (.ref a__law_number)
  a__law_take : Addr
  fd__law_take : FuncData
  F__law_take : Fun K "_law_take" "_law_take" s__law_take a__law_take fd__law_take
  b__law_take : Binds K fd__law_take ["draw", "many"] []
  g__law_take : mg "_law_take" = some (.ref a__law_take)
  a__law_pick : Addr
  fd__law_pick : FuncData
  F__law_pick : Fun K "_law_pick" "_law_pick" s__law_pick a__law_pick fd__law_pick
  b__law_pick : Binds K fd__law_pick ["draw", "items"] []
  g__law_pick : mg "_law_pick" = some (.ref a__law_pick)
  a__law_deed : Addr
  fd__law_deed : FuncData
  F__law_deed : Fun K "_law_deed" "_law_deed" s__law_deed a__law_deed fd__law_deed
  b__law_deed : Binds K fd__law_deed ["draw", "modes"] []
  g__law_deed : mg "_law_deed" = some (.ref a__law_deed)
  a__law_told : Addr
  fd__law_told : FuncData
  F__law_told : Fun K "_law_told" "_law_told" s__law_told a__law_told fd__law_told
  b__law_told : Binds K fd__law_told ["draw", "signs"] []
  g__law_told : mg "_law_told" = some (.ref a__law_told)
  a__law_row : Addr
  fd__law_row : FuncData
  F__law_row : Fun K "_law_row" "_law_row" s__law_row a__law_row fd__law_row
  b__law_row : Binds K fd__law_row ["told", "mode", "sign", "late"] []
  g__law_row : mg "_law_row" = some (.ref a__law_row)
  a__law_done : Addr
  fd__law_done : FuncData
  F__law_done : Fun K "_law_done" "_law_done" s__law_done a__law_done fd__law_done
  b__law_done : Binds K fd__law_done ["told", "stack", "deed"] []
  g__law_done : mg "_law_done" = some (.ref a__law_done)
  a__law_line : Addr
  fd__law_line : FuncData
  F__law_line : Fun K "_law_line" "_law_line" s__law_line a__law_line fd__law_line
  b__law_line : Binds K fd__law_line ["told", "stack", "line"] []
  g__law_line : mg "_law_line" = some (.ref a__law_line)
  a__law_text : Addr
  fd__law_text : FuncData
  F__law_text : Fun K "_law_text" "_law_text" s__law_text a__law_text fd__law_text
  b__law_text : Binds K fd__law_text ["told", "stack", "lines"] []
  g__law_text : mg "_law_text" = some (.ref a__law_text)
  a_BadBook___init__ : Addr
  fd_BadBook___init__ : FuncData
  F_BadBook___init__ : Fun K "__init__" "BadBook.__init__" s_BadBook___init__ a_BadBook___init__ fd_BadBook___init__
  b_BadBook___init__ : Binds K fd_BadBook___init__ ["self", "part", "mode", "number"] []
  a_is_row : Addr
  fd_is_row : FuncData
  F_is_row : Fun K "is_row" "is_row" s_is_row a_is_row fd_is_row
  b_is_row : Binds K fd_is_row ["thing"] []
  g_is_row : mg "is_row" = some (.ref a_is_row)
  a_is_name : Addr
  fd_is_name : FuncData
  F_is_name : Fun K "is_name" "is_name" s_is_name a_is_name fd_is_name
  b_is_name : Binds K fd_is_name ["thing"] []
  g_is_name : mg "is_name" = some (.ref a_is_name)
  a_is_deed : Addr
  fd_is_deed : FuncData
  F_is_deed : Fun K "is_deed" "is_deed" s_is_deed a_is_deed fd_is_deed
  b_is_deed : Binds K fd_is_deed ["modes", "deed"] []
  g_is_deed : mg "is_deed" = some (.ref a_is_deed)
  a_are_signs : Addr
  fd_are_signs : FuncData
  F_are_signs : Fun K "are_signs" "are_signs" s_are_signs a_are_signs fd_are_signs
  b_are_signs : Binds K fd_are_signs ["signs", "some"] []
  g_are_signs : mg "are_signs" = some (.ref a_are_signs)
  a_are_nexts : Addr
  fd_are_nexts : FuncData
  F_are_nexts : Fun K "are_nexts" "are_nexts" s_are_nexts a_are_nexts fd_are_nexts
  b_are_nexts : Binds K fd_are_nexts ["signs", "some"] []
  g_are_nexts : mg "are_nexts" = some (.ref a_are_nexts)
  a_check_mode : Addr
  fd_check_mode : FuncData
  F_check_mode : Fun K "check_mode" "check_mode" s_check_mode a_check_mode fd_check_mode
  b_check_mode : Binds K fd_check_mode ["signs", "modes", "name"] []
  g_check_mode : mg "check_mode" = some (.ref a_check_mode)
  a_kept : Addr
  fd_kept : FuncData
  F_kept : Fun K "kept" "kept" s_kept a_kept fd_kept
  b_kept : Binds K fd_kept ["mode"] []
  g_kept : mg "kept" = some (.ref a_kept)
  a_is_number : Addr
  fd_is_number : FuncData
  F_is_number : Fun K "is_number" "is_number" s_is_number a_is_number fd_is_number
  b_is_number : Binds K fd_is_number ["thing"] []
  g_is_number : mg "is_number" = some (.ref a_is_number)
  a_Book___init__ : Addr
  fd_Book___init__ : FuncData
  F_Book___init__ : Fun K "__init__" "Book.__init__" s_Book___init__ a_Book___init__ fd_Book___init__
  b_Book___init__ : Binds K fd_Book___init__ ["self", "signs", "modes", "first", "deep"] []
  a__law_book : Addr
  fd__law_book : FuncData
  F__law_book : Fun K "_law_book" "_law_book" s__law_book a__law_book fd__law_book
  b__law_book : Binds K fd__law_book ["told"] []
  g__law_book : mg "_law_book" = some (.ref a__law_book)
  a__law_signs : Addr
  fd__law_signs : FuncData
  F__law_signs : Fun K "_law_signs" "_law_signs" s__law_signs a__law_signs fd__law_signs
  b__law_signs : Binds K fd__law_signs ["draw", "signs", "most"] []
  g__law_signs : mg "_law_signs" = some (.ref a__law_signs)
  a__law_lines : Addr
  fd__law_lines : FuncData
  F__law_lines : Fun K "_law_lines" "_law_lines" s__law_lines a__law_lines fd__law_lines
  b__law_lines : Binds K fd__law_lines ["draw", "signs", "many", "most"] []
  g__law_lines : mg "_law_lines" = some (.ref a__law_lines)
  a_spans : Addr
  fd_spans : FuncData
  F_spans : Fun K "spans" "spans" s_spans a_spans fd_spans
  b_spans : Binds K fd_spans ["colours"] []
  g_spans : mg "spans" = some (.ref a_spans)
  a_check_book : Addr
  fd_check_book : FuncData
  F_check_book : Fun K "check_book" "check_book" s_check_book a_check_book fd_check_book
  b_check_book : Binds K fd_check_book ["book"] []
  g_check_book : mg "check_book" = some (.ref a_check_book)
  a_BadText___init__ : Addr
  fd_BadText___init__ : FuncData
  F_BadText___init__ : Fun K "__init__" "BadText.__init__" s_BadText___init__ a_BadText___init__ fd_BadText___init__
  b_BadText___init__ : Binds K fd_BadText___init__ ["self", "number"] []
  a_is_line : Addr
  fd_is_line : FuncData
  F_is_line : Fun K "is_line" "is_line" s_is_line a_is_line fd_is_line
  b_is_line : Binds K fd_is_line ["book", "line"] []
  g_is_line : mg "is_line" = some (.ref a_is_line)
  a_check_lines : Addr
  fd_check_lines : FuncData
  F_check_lines : Fun K "check_lines" "check_lines" s_check_lines a_check_lines fd_check_lines
  b_check_lines : Binds K fd_check_lines ["book", "lines"] []
  g_check_lines : mg "check_lines" = some (.ref a_check_lines)
  a_Book_row : Addr
  fd_Book_row : FuncData
  F_Book_row : Fun K "row" "Book.row" s_Book_row a_Book_row fd_Book_row
  b_Book_row : Binds K fd_Book_row ["self", "mode", "sign", "late"] []
  m_Book_row : Meth K c.Book "row" a_Book_row
  a_Book_done : Addr
  fd_Book_done : FuncData
  F_Book_done : Fun K "done" "Book.done" s_Book_done a_Book_done fd_Book_done
  b_Book_done : Binds K fd_Book_done ["self", "stack", "deed"] []
  m_Book_done : Meth K c.Book "done" a_Book_done
  a_Book_step : Addr
  fd_Book_step : FuncData
  F_Book_step : Fun K "step" "Book.step" s_Book_step a_Book_step fd_Book_step
  b_Book_step : Binds K fd_Book_step ["self", "stack", "sign", "late"] []
  m_Book_step : Meth K c.Book "step" a_Book_step
  a_Book_ended : Addr
  fd_Book_ended : FuncData
  F_Book_ended : Fun K "ended" "Book.ended" s_Book_ended a_Book_ended fd_Book_ended
  b_Book_ended : Binds K fd_Book_ended ["self", "stack"] []
  m_Book_ended : Meth K c.Book "ended" a_Book_ended
  a_coloured : Addr
  fd_coloured : FuncData
  F_coloured : Fun K "coloured" "coloured" s_coloured a_coloured fd_coloured
  b_coloured : Binds K fd_coloured ["book", "stack", "line"] []
  g_coloured : mg "coloured" = some (.ref a_coloured)
  a_colour_text : Addr
  fd_colour_text : FuncData
  F_colour_text : Fun K "colour_text" "colour_text" s_colour_text a_colour_text fd_colour_text
  b_colour_text : Binds K fd_colour_text ["book", "lines"] []
  g_colour_text : mg "colour_text" = some (.ref a_colour_text)
  a_write_spans : Addr
  fd_write_spans : FuncData
  F_write_spans : Fun K "write_spans" "write_spans" s_write_spans a_write_spans fd_write_spans
  b_write_spans : Binds K fd_write_spans ["book", "lines"] []
  g_write_spans : mg "write_spans" = some (.ref a_write_spans)
  a_BadName___init__ : Addr
  fd_BadName___init__ : FuncData
  F_BadName___init__ : Fun K "__init__" "BadName.__init__" s_BadName___init__ a_BadName___init__ fd_BadName___init__
  b_BadName___init__ : Binds K fd_BadName___init__ ["self", "name"] []
  a_is_paint : Addr
  fd_is_paint : FuncData
  F_is_paint : Fun K "is_paint" "is_paint" s_is_paint a_is_paint fd_is_paint
  b_is_paint : Binds K fd_is_paint ["colour", "paint"] []
  g_is_paint : mg "is_paint" = some (.ref a_is_paint)
  a_painted : Addr
  fd_painted : FuncData
  F_painted : Fun K "painted" "painted" s_painted a_painted fd_painted
  b_painted : Binds K fd_painted ["book", "lines", "paints"] []
  g_painted : mg "painted" = some (.ref a_painted)
  a__law_spread : Addr
  fd__law_spread : FuncData
  F__law_spread : Fun K "_law_spread" "_law_spread" s__law_spread a__law_spread fd__law_spread
  b__law_spread : Binds K fd__law_spread ["rows"] []
  g__law_spread : mg "_law_spread" = some (.ref a__law_spread)
  a_is_mode : Addr
  fd_is_mode : FuncData
  F_is_mode : Fun K "is_mode" "is_mode" s_is_mode a_is_mode fd_is_mode
  b_is_mode : Binds K fd_is_mode ["book", "mode"] []
  g_is_mode : mg "is_mode" = some (.ref a_is_mode)
  a_is_stack : Addr
  fd_is_stack : FuncData
  F_is_stack : Fun K "is_stack" "is_stack" s_is_stack a_is_stack fd_is_stack
  b_is_stack : Binds K fd_is_stack ["book", "stack"] []
  g_is_stack : mg "is_stack" = some (.ref a_is_stack)
  a_check_stack : Addr
  fd_check_stack : FuncData
  F_check_stack : Fun K "check_stack" "check_stack" s_check_stack a_check_stack fd_check_stack
  b_check_stack : Binds K fd_check_stack ["book", "stack"] []
  g_check_stack : mg "check_stack" = some (.ref a_check_stack)
  a_colour_line : Addr
  fd_colour_line : FuncData
  F_colour_line : Fun K "colour_line" "colour_line" s_colour_line a_colour_line fd_colour_line
  b_colour_line : Binds K fd_colour_line ["book", "stack", "line"] []
  g_colour_line : mg "colour_line" = some (.ref a_colour_line)
  a_law : Addr
  fd_law : FuncData
  F_law : Fun K "law" "law" s_law a_law fd_law
  b_law : Binds K fd_law ["script"] []
  g_FIGURES : ∃ t, mg "FIGURES" = some (.str "0123456789" t)
  g_LETTERS : ∃ t, mg "LETTERS" = some (.str "abcdefghijklmnopqrstuvwxyz" t)
  g_MOST_DEEP : ∃ t, mg "MOST_DEEP" = some (.int 4 t)
  g_MOST_LINES : ∃ t, mg "MOST_LINES" = some (.int 64 t)
  g_MOST_LONG : ∃ t, mg "MOST_LONG" = some (.int 80 t)
  g_MOST_MODES : ∃ t, mg "MOST_MODES" = some (.int 4 t)
  g_MOST_NEXTS : ∃ t, mg "MOST_NEXTS" = some (.int 12 t)
  g_MOST_ROWS : ∃ t, mg "MOST_ROWS" = some (.int 8 t)
  g_MOST_SIGNS : ∃ t, mg "MOST_SIGNS" = some (.int 6 t)
  n_all : mg "all" = none
  n_any : mg "any" = none
  n_bool : mg "bool" = none
  n_dict : mg "dict" = none
  n_enumerate : mg "enumerate" = none
  n_int : mg "int" = none
  n_isinstance : mg "isinstance" = none
  n_len : mg "len" = none
  n_list : mg "list" = none
  n_range : mg "range" = none
  n_sorted : mg "sorted" = none
  n_str : mg "str" = none
  n_tuple : mg "tuple" = none
  n_zip : mg "zip" = none
  g_Book : mg "Book" = some (.ref c.Book)
  cls_Book : Cls K c.Book
  clt_Book : ClsT K c.Book
  mk_Book : Mk K c.Book a_Book___init__
  no_Book_deep : NoAttr K c.Book "deep"
  no_Book_first : NoAttr K c.Book "first"
  no_Book_modes : NoAttr K c.Book "modes"
  no_Book_signs : NoAttr K c.Book "signs"
  kno_Book : ∀ n ∈ tyNames, PySem.W.kitOne K (.ref c.Book) (.type n) = some false
  kon_Book : ∀ t ∈ tyNames, PySem.W.kitOne K (.type t) (.ref c.Book) = some false
  kyes_Book : PySem.W.kitOne K (.ref c.Book) (.ref c.Book) = some true
  g_BadBook : mg "BadBook" = some (.ref c.BadBook)
  oex_BadBook : OexC K c.BadBook
  ini_BadBook : PySem.W.findIn K (.ref c.BadBook) "__init__" = some (some (.ref a_BadBook___init__))
  typ_BadBook : PySem.W.typeIn K (.ref a_BadBook___init__) = some (.type "function")
  xct_BadBook : ExcT K c.BadBook
  no_BadBook_part : PySem.W.findIn K (.ref c.BadBook) "part" = some none
  no_BadBook_mode : PySem.W.findIn K (.ref c.BadBook) "mode" = some none
  no_BadBook_number : PySem.W.findIn K (.ref c.BadBook) "number" = some none
  g_BadText : mg "BadText" = some (.ref c.BadText)
  oex_BadText : OexC K c.BadText
  ini_BadText : PySem.W.findIn K (.ref c.BadText) "__init__" = some (some (.ref a_BadText___init__))
  typ_BadText : PySem.W.typeIn K (.ref a_BadText___init__) = some (.type "function")
  xct_BadText : ExcT K c.BadText
  no_BadText_number : PySem.W.findIn K (.ref c.BadText) "number" = some none
  g_BadName : mg "BadName" = some (.ref c.BadName)
  oex_BadName : OexC K c.BadName
  ini_BadName : PySem.W.findIn K (.ref c.BadName) "__init__" = some (some (.ref a_BadName___init__))
  typ_BadName : PySem.W.typeIn K (.ref a_BadName___init__) = some (.type "function")
  xct_BadName : ExcT K c.BadName
  no_BadName_name : PySem.W.findIn K (.ref c.BadName) "name" = some none
  xm_BadText_BadBook : PySem.W.exmOne K (.ref c.BadBook) (.ref c.BadText) = some false
  xm_BadText_BadText : PySem.W.exmOne K (.ref c.BadText) (.ref c.BadText) = some true
  xm_BadText_BadName : PySem.W.exmOne K (.ref c.BadName) (.ref c.BadText) = some false
section
variable {K : PySem.W.Frag} {mg : Str → Option Value} {c : Cs}
theorem Facts.fld_deep (Fa : Facts K mg c) : ∀ C, okF_deep c C = true → Cls K C ∧ NoAttr K C "deep" := by
  intro C h
  unfold okF_deep at h
  simp only [Bool.or_eq_true, beq_iff_eq] at h
  rcases h with rfl
  · exact ⟨Fa.cls_Book, Fa.no_Book_deep⟩
theorem Facts.fld_first (Fa : Facts K mg c) : ∀ C, okF_first c C = true → Cls K C ∧ NoAttr K C "first" := by
  intro C h
  unfold okF_first at h
  simp only [Bool.or_eq_true, beq_iff_eq] at h
  rcases h with rfl
  · exact ⟨Fa.cls_Book, Fa.no_Book_first⟩
theorem Facts.fld_modes (Fa : Facts K mg c) : ∀ C, okF_modes c C = true → Cls K C ∧ NoAttr K C "modes" := by
  intro C h
  unfold okF_modes at h
  simp only [Bool.or_eq_true, beq_iff_eq] at h
  rcases h with rfl
  · exact ⟨Fa.cls_Book, Fa.no_Book_modes⟩
theorem Facts.fld_signs (Fa : Facts K mg c) : ∀ C, okF_signs c C = true → Cls K C ∧ NoAttr K C "signs" := by
  intro C h
  unfold okF_signs at h
  simp only [Bool.or_eq_true, beq_iff_eq] at h
  rcases h with rfl
  · exact ⟨Fa.cls_Book, Fa.no_Book_signs⟩
theorem Facts.xfld_mode (Fa : Facts K mg c) : ∀ C, okX_mode c C = true → ExcT K C ∧ PySem.W.findIn K (.ref C) "mode" = some none := by
  intro C h
  unfold okX_mode at h
  simp only [Bool.or_eq_true, beq_iff_eq] at h
  rcases h with rfl
  · exact ⟨Fa.xct_BadBook, Fa.no_BadBook_mode⟩
theorem Facts.xfld_name (Fa : Facts K mg c) : ∀ C, okX_name c C = true → ExcT K C ∧ PySem.W.findIn K (.ref C) "name" = some none := by
  intro C h
  unfold okX_name at h
  simp only [Bool.or_eq_true, beq_iff_eq] at h
  rcases h with rfl
  · exact ⟨Fa.xct_BadName, Fa.no_BadName_name⟩
theorem Facts.xfld_number (Fa : Facts K mg c) : ∀ C, okX_number c C = true → ExcT K C ∧ PySem.W.findIn K (.ref C) "number" = some none := by
  intro C h
  unfold okX_number at h
  simp only [Bool.or_eq_true, beq_iff_eq] at h
  rcases h with rfl | rfl
  · exact ⟨Fa.xct_BadBook, Fa.no_BadBook_number⟩
  · exact ⟨Fa.xct_BadText, Fa.no_BadText_number⟩
theorem Facts.xfld_part (Fa : Facts K mg c) : ∀ C, okX_part c C = true → ExcT K C ∧ PySem.W.findIn K (.ref C) "part" = some none := by
  intro C h
  unfold okX_part at h
  simp only [Bool.or_eq_true, beq_iff_eq] at h
  rcases h with rfl
  · exact ⟨Fa.xct_BadBook, Fa.no_BadBook_part⟩
theorem own_no_at {C : Addr} {b : Bool} (h : own_no c C = some b) : b = false ∧ (C = c.Book) := by
  unfold own_no at h
  split at h
  · rename_i e
    cases h
    simp only [Bool.or_eq_true, beq_iff_eq] at e
    exact ⟨rfl, by simpa using e⟩
  · cases h
theorem Facts.isi_no (Fa : Facts K mg c) (n1 n2 : String) (h1 : n1 ∈ tyNames) (h2 : n2 ∈ tyNames) : ∀ C b, own_no c C = some b → b = false ∧ ClsT K C ∧ PySem.W.kitOne K (.ref C) (.type n1) = some false ∧ PySem.W.kitOne K (.ref C) (.type n2) = some false := by
  intro C b h
  obtain ⟨hb, hC⟩ := own_no_at h
  rcases hC with rfl
  · exact ⟨hb, Fa.clt_Book, Fa.kno_Book _ h1, Fa.kno_Book _ h2⟩
theorem Facts.isi_no1 (Fa : Facts K mg c) (n1 : String) (h1 : n1 ∈ tyNames) : ∀ C b, own_no c C = some b → ClsT K C ∧ PySem.W.kitOne K (.ref C) (.type n1) = some b := by
  intro C b h
  obtain ⟨h0, h2, h3, _⟩ := Fa.isi_no n1 n1 h1 h1 C b h
  subst h0
  exact ⟨h2, h3⟩
theorem Facts.isiB_Book (Fa : Facts K mg c) : ∀ t ∈ tyNames, PySem.W.kitOne K (.type t) (.ref c.Book) = some false := Fa.kon_Book
theorem Facts.isi_Book (Fa : Facts K mg c) : ∀ C b, own_Book c C = some b → ClsT K C ∧ PySem.W.kitOne K (.ref C) (.ref c.Book) = some b := by
  intro C b h
  unfold own_Book at h
  split at h
  · rename_i e
    cases h
    have e := eq_of_beq e
    subst e
    exact ⟨Fa.clt_Book, Fa.kyes_Book⟩
  · cases h
theorem Facts.exm_BadText (Fa : Facts K mg c) : ∀ C b, ex_BadText c C = some b → PySem.W.exmOne K (.ref C) (.ref c.BadText) = some b := by
  intro C b h
  unfold ex_BadText at h
  split at h
  · rename_i e
    cases h
    have e := eq_of_beq e
    subst e
    exact Fa.xm_BadText_BadBook
  split at h
  · rename_i e
    cases h
    have e := eq_of_beq e
    subst e
    exact Fa.xm_BadText_BadText
  split at h
  · rename_i e
    cases h
    have e := eq_of_beq e
    subst e
    exact Fa.xm_BadText_BadName
  cases h
variable {P : Program} {w : World} {base : Heap}
def N__law_number : List Str := ["script", "index", "cell", "turn", "rest", "step", "blend"]
theorem sc__law_number : FnScope N__law_number ["script", "index"] (defScope s__law_number) := ⟨rfl, rfl, rfl, by decide +kernel, rfl, by decide +kernel, by decide +kernel⟩
noncomputable def T__law_number_1 (c : Cs) : List Sl → SO :=
  (setS 4 (use2 fdivD (name 4) (konst (.int 1009))))
noncomputable def T__law_number_2 (c : Cs) : List Sl → SO :=
  (seqS (setS 6 (use2 modD (use2 addD (use2 mulDD (name 6) (name 6)) (use2 mulDD (konst (.int 40503)) (name 1))) (konst (.int 2147483629))))
  (retS (frzD (useA intD (consA (use2 modD (use2 addD (use2 mulDD (name 6) (konst (.int 69621))) (use2 fdivD (name 6) (konst (.int 977)))) (konst (.int 2147483587))) nilA)))))
noncomputable def T__law_number_3 (c : Cs) : List Sl → SO :=
  (seqS (setS 6 (use2 modD (use2 addD (use2 mulDD (useA intD (consA (use2 addD (name 2) (use2 mulDD (konst (.int 977)) (name 1))) nilA)) (konst (.int 48271))) (use2 mulDD (konst (.int 31)) (useA lenD (consA (name 0) nilA)))) (konst (.int 2147483647))))
  (T__law_number_2 c))
noncomputable def T__law_number_4 (c : Cs) : List Sl → SO :=
  (seqS (ifS (isB (use2 gtD (name 4) (konst (.int 0)))) (retS (frzD (use2 modD (useA intD (consA (name 4) nilA)) (konst (.int 1009))))) nextS)
  (T__law_number_3 c))
noncomputable def T__law_number_5 (c : Cs) : List Sl → SO :=
  (seqS (forS (rangeI (consA (use2 modD (useA intD (consA (name 3) nilA)) (konst (.int 60))) nilA)) (putG 5) (T__law_number_1 c))
  (T__law_number_4 c))
noncomputable def T__law_number_6 (c : Cs) : List Sl → SO :=
  (seqS (setS 4 (ifE (isB (use2 ltD (name 3) (konst (.int 60)))) (use2 subD (name 2) (use2 powD (konst (.int 10)) (konst (.int 18)))) (konst (.int 0))))
  (T__law_number_5 c))
noncomputable def T__law_number_7 (c : Cs) : List Sl → SO :=
  (seqS (asgS (ifE (isB (use2 neDD (name 0) (useA lstD nilA))) (useA tupD (consA (frzD (use2 ixDD (name 0) (use2 modD (name 1) (useA lenD (consA (name 0) nilA))))) (consA (frzD (use2 fdivD (name 1) (useA lenD (consA (name 0) nilA)))) nilA))) (useA tupD (consA (konst (.int 12345)) (consA (konst (.int 0)) nilA)))) (tupG 2 (consG (putG 2) (consG (putG 3) nilG))))
  (T__law_number_6 c))
noncomputable def T__law_number (c : Cs) : List Sl → SO :=
  (T__law_number_7 c)
noncomputable def f__law_number (c : Cs) : List (M × D) → FO := bodyF 7 (T__law_number c)
theorem ok__law_number (Fa : Facts K mg c) : FnOk P w K mg base (L2.CX P w) 1 Fa.a__law_number Fa.fd__law_number ["script", "index"] (spF K 2 (f__law_number c)) := by
  refine fn_okF (N := N__law_number) (T := T__law_number c) Fa.F__law_number sc__law_number fun cdv A outer s H E hr => ?_
  have hu := Room.u64 hr
  unfold T__law_number T__law_number_7 T__law_number_6 T__law_number_5 T__law_number_4 T__law_number_3 T__law_number_2 T__law_number_1
  exact (fss_cons (fs_asg (fe_if (ft_cmpF (c_ne hu) (fe_name (pv 0)) (fe_lst fa_nil)) (fe_tup (fa_cons (fe_frzD (fe_ix hu (fe_name (pv 0)) (fe_mod (fe_name (pv 1)) (fe_callB b_len rfl Fa.n_len boot_len (fa_cons (fe_name (pv 0)) fa_nil))))) (fa_cons (fe_frzD (fe_fdiv (fe_name (pv 1)) (fe_callB b_len rfl Fa.n_len boot_len (fa_cons (fe_name (pv 0)) fa_nil)))) fa_nil))) (fe_tup (fa_cons fe_int (fa_cons fe_int fa_nil)))) (fg_tup (n := 2) rfl (fgs_cons (fg_name (i := 2) sc__law_number.nd rfl (by first | exact Or.inl rfl | exact Or.inr rfl)) (fgs_cons (fg_name (i := 3) sc__law_number.nd rfl (by first | exact Or.inl rfl | exact Or.inr rfl)) fgs_nil))))
  (fss_cons (fs_set sc__law_number.nd rfl (by first | exact Or.inl rfl | exact Or.inr rfl) (fe_if (ft_cmpF c_lt (fe_name (pv 3)) fe_int) (fe_sub (fe_name (pv 2)) (fe_pow fe_int fe_int)) fe_int))
  (fss_cons (fs_for (passes_of rfl) rfl (fi_range1 rfl Fa.n_range (fa_cons (fe_mod (fe_callTy b_int rfl Fa.n_int boot_int (fa_cons (fe_name (pv 3)) fa_nil)) fe_int) fa_nil)) (fg_name (i := 5) sc__law_number.nd rfl (by first | exact Or.inl rfl | exact Or.inr rfl)) (fss_one (fs_set sc__law_number.nd rfl (by first | exact Or.inl rfl | exact Or.inr rfl) (fe_fdiv (fe_name (pv 4)) fe_int))))
  (fss_cons (fs_if (ft_cmpF c_gt (fe_name (pv 4)) fe_int) (fss_one (fs_ret (fe_frzD (fe_mod (fe_callTy b_int rfl Fa.n_int boot_int (fa_cons (fe_name (pv 4)) fa_nil)) fe_int)))) fss_nil)
  (fss_cons (fs_set sc__law_number.nd rfl (by first | exact Or.inl rfl | exact Or.inr rfl) (fe_mod (fe_add (fe_mul (fe_callTy b_int rfl Fa.n_int boot_int (fa_cons (fe_add (fe_name (pv 2)) (fe_mul fe_int (fe_name (pv 1)))) fa_nil)) fe_int) (fe_mul fe_int (fe_callB b_len rfl Fa.n_len boot_len (fa_cons (fe_name (pv 0)) fa_nil)))) fe_int))
  (fss_cons (fs_set sc__law_number.nd rfl (by first | exact Or.inl rfl | exact Or.inr rfl) (fe_mod (fe_add (fe_mul (fe_name (pv 6)) (fe_name (pv 6))) (fe_mul fe_int (fe_name (pv 1)))) fe_int))
  (fss_one (fs_ret (fe_frzD (fe_callTy b_int rfl Fa.n_int boot_int (fa_cons (fe_mod (fe_add (fe_mul (fe_name (pv 6)) fe_int) (fe_fdiv (fe_name (pv 6)) fe_int)) fe_int) fa_nil)))))))))))

def N__law_take : List Str := ["draw", "many"]
theorem sc__law_take : FnScope N__law_take ["draw", "many"] (defScope s__law_take) := ⟨rfl, rfl, rfl, by decide +kernel, rfl, by decide +kernel, by decide +kernel⟩
noncomputable def T__law_take_1 (c : Cs) : List Sl → SO :=
  (seqS (augIxS 0 augAddD (konst (.int 1)) (konst (.int 1)))
  (retS (frzD (use2 modD (useA intD (consA (callE (f__law_number c) (consA (frzD (use2 ixDD (name 0) (konst (.int 0)))) (consA (frzD (useA intD (consA (use2 ixDD (name 0) (konst (.int 1))) nilA))) nilA))) nilA)) (name 1)))))
noncomputable def T__law_take (c : Cs) : List Sl → SO :=
  (T__law_take_1 c)
noncomputable def f__law_take (c : Cs) : List (M × D) → FO := bodyF 2 (T__law_take c)
theorem ok__law_take (Fa : Facts K mg c) : FnOk P w K mg base (L2.CX P w) 2 Fa.a__law_take Fa.fd__law_take ["draw", "many"] (spF K 2 (f__law_take c)) := by
  refine fn_okF (N := N__law_take) (T := T__law_take c) Fa.F__law_take sc__law_take fun cdv A outer s H E hr => ?_
  have hu := Room.u64 hr
  unfold T__law_take T__law_take_1
  exact (fss_cons (fs_augIx hu a_add (pv 0) fe_int fe_int)
  (fss_one (fs_ret (fe_frzD (fe_mod (fe_callTy b_int rfl Fa.n_int boot_int (fa_cons (fe_call (ok__law_number Fa) (hr.mono (by decide)) rfl Fa.g__law_number Fa.F__law_number.kp Fa.b__law_number (takes_of rfl rfl rfl rfl) (fa_cons (fe_frzD (fe_ix hu (fe_name (pv 0)) fe_int)) (fa_cons (fe_frzD (fe_callTy b_int rfl Fa.n_int boot_int (fa_cons (fe_ix hu (fe_name (pv 0)) fe_int) fa_nil))) fa_nil)) (len_cons (len_cons len_nil))) fa_nil)) (fe_name (pv 1)))))))

def N__law_pick : List Str := ["draw", "items"]
theorem sc__law_pick : FnScope N__law_pick ["draw", "items"] (defScope s__law_pick) := ⟨rfl, rfl, rfl, by decide +kernel, rfl, by decide +kernel, by decide +kernel⟩
noncomputable def T__law_pick (c : Cs) : List Sl → SO :=
  (retS (frzD (use2 ixDD (name 1) (callE (f__law_take c) (consA (name 0) (consA (frzD (useA lenD (consA (name 1) nilA))) nilA))))))
noncomputable def f__law_pick (c : Cs) : List (M × D) → FO := bodyF 2 (T__law_pick c)
theorem ok__law_pick (Fa : Facts K mg c) : FnOk P w K mg base (L2.CX P w) 3 Fa.a__law_pick Fa.fd__law_pick ["draw", "items"] (spF K 2 (f__law_pick c)) := by
  refine fn_okF (N := N__law_pick) (T := T__law_pick c) Fa.F__law_pick sc__law_pick fun cdv A outer s H E hr => ?_
  have hu := Room.u64 hr
  unfold T__law_pick
  exact (fss_one (fs_ret (fe_frzD (fe_ix hu (fe_name (pv 1)) (fe_call (ok__law_take Fa) (hr.mono (by decide)) rfl Fa.g__law_take Fa.F__law_take.kp Fa.b__law_take (takes_of rfl rfl rfl rfl) (fa_cons (fe_name (pv 0)) (fa_cons (fe_frzD (fe_callB b_len rfl Fa.n_len boot_len (fa_cons (fe_name (pv 1)) fa_nil))) fa_nil)) (len_cons (len_cons len_nil)))))))

def N__law_deed : List Str := ["draw", "modes", "kind"]
theorem sc__law_deed : FnScope N__law_deed ["draw", "modes"] (defScope s__law_deed) := ⟨rfl, rfl, rfl, by decide +kernel, rfl, by decide +kernel, by decide +kernel⟩
noncomputable def T__law_deed_1 (c : Cs) : List Sl → SO :=
  (seqS (setS 2 (callE (f__law_take c) (consA (name 0) (consA (konst (.int 6)) nilA))))
  (retS (ifE (isB (use2 ltD (name 2) (konst (.int 2)))) (useA tupD (consA (konst (.str "stay")) nilA)) (ifE (isB (use2 eqDD (name 2) (konst (.int 2)))) (useA tupD (consA (konst (.str "pop")) nilA)) (useA tupD (consA (frzD (use2 ixDD (useA lstD (consA (konst (.str "push")) (consA (konst (.str "push")) (consA (konst (.str "swap")) nilA)))) (use2 subD (name 2) (konst (.int 3))))) (consA (frzD (callE (f__law_pick c) (consA (name 0) (consA (name 1) nilA)))) nilA)))))))
noncomputable def T__law_deed (c : Cs) : List Sl → SO :=
  (T__law_deed_1 c)
noncomputable def f__law_deed (c : Cs) : List (M × D) → FO := bodyF 3 (T__law_deed c)
theorem ok__law_deed (Fa : Facts K mg c) : FnOk P w K mg base (L2.CX P w) 4 Fa.a__law_deed Fa.fd__law_deed ["draw", "modes"] (spF K 2 (f__law_deed c)) := by
  refine fn_okF (N := N__law_deed) (T := T__law_deed c) Fa.F__law_deed sc__law_deed fun cdv A outer s H E hr => ?_
  have hu := Room.u64 hr
  unfold T__law_deed T__law_deed_1
  exact (fss_cons (fs_set sc__law_deed.nd rfl (by first | exact Or.inl rfl | exact Or.inr rfl) (fe_call (ok__law_take Fa) (hr.mono (by decide)) rfl Fa.g__law_take Fa.F__law_take.kp Fa.b__law_take (takes_of rfl rfl rfl rfl) (fa_cons (fe_name (pv 0)) (fa_cons fe_int fa_nil)) (len_cons (len_cons len_nil))))
  (fss_one (fs_ret (fe_if (ft_cmpF c_lt (fe_name (pv 2)) fe_int) (fe_tup (fa_cons fe_str fa_nil)) (fe_if (ft_cmpF (c_eq hu) (fe_name (pv 2)) fe_int) (fe_tup (fa_cons fe_str fa_nil)) (fe_tup (fa_cons (fe_frzD (fe_ix hu (fe_lst (fa_cons fe_str (fa_cons fe_str (fa_cons fe_str fa_nil)))) (fe_sub (fe_name (pv 2)) fe_int))) (fa_cons (fe_frzD (fe_call (ok__law_pick Fa) (hr.mono (by decide)) rfl Fa.g__law_pick Fa.F__law_pick.kp Fa.b__law_pick (takes_of rfl rfl rfl rfl) (fa_cons (fe_name (pv 0)) (fa_cons (fe_name (pv 1)) fa_nil)) (len_cons (len_cons len_nil)))) fa_nil))))))))

def N__law_told : List Str := ["draw", "signs", "names", "modes", "name", "rows", "turn", "some", "nexts", "sign"]
theorem sc__law_told : FnScope N__law_told ["draw", "signs"] (defScope s__law_told) := ⟨rfl, rfl, rfl, by decide +kernel, rfl, by decide +kernel, by decide +kernel⟩
noncomputable def T__law_told_1 (c : Cs) : List Sl → EO :=
  (lcE [9] (anyI (nameFD 1)) (putG 9) (isB (use2 eqDD (callE (f__law_take c) (consA (name 0) (consA (konst (.int 2)) nilA))) (konst (.int 0)))) (nameFD 9))
noncomputable def T__law_told_2 (c : Cs) : List Sl → EO :=
  (lcE [9] (anyI (frzD (use2 addD (useA lstC (consA (name 1) nilA)) (useA lstD (consA (konst (.str "")) nilA))))) (putG 9) (isB (use2 eqDD (callE (f__law_take c) (consA (name 0) (consA (konst (.int 2)) nilA))) (konst (.int 0)))) (nameFD 9))
noncomputable def T__law_told_3 (c : Cs) : List Sl → SO :=
  (seqS (setS 8 (ifE (isB (use2 gtD (callE (f__law_take c) (consA (name 0) (consA (konst (.int 3)) nilA))) (konst (.int 0)))) (konst .non) (useA tupC (consA (T__law_told_2 c) nilA))))
  (dropS (appE 5 (useA tupD (consA (nameFD 7) (consA (nameFD 8) (consA (frzD (callE (f__law_pick c) (consA (name 0) (consA (frzD (useA lstD (consA (konst (.str "red")) (consA (konst (.str "blue")) (consA (konst (.str "dim")) nilA))))) nilA)))) (consA (frzD (callE (f__law_deed c) (consA (name 0) (consA (name 2) nilA)))) nilA))))))))
noncomputable def T__law_told_4 (c : Cs) : List Sl → SO :=
  (seqS (setS 7 (orTE (frzD (useA tupC (consA (T__law_told_1 c) nilA))) (useA tupD (consA (frzD (use2 ixDD (name 1) (konst (.int 0)))) nilA))))
  (T__law_told_3 c))
noncomputable def T__law_told_5 (c : Cs) : List Sl → SO :=
  (seqS (forS (rangeI (consA (callE (f__law_take c) (consA (name 0) (consA (konst (.int 4)) nilA))) nilA)) (putG 6) (T__law_told_4 c))
  (setIxS 3 (name 4) (useA tupD (consA (frzD (useA tupC (consA (name 5) nilA))) (consA (frzD (callE (f__law_pick c) (consA (name 0) (consA (frzD (useA lstD (consA (konst (.str "dim")) (consA (konst (.str "red")) (consA (konst (.str "gray")) nilA))))) nilA)))) (consA (ifE (isB (use2 gtD (callE (f__law_take c) (consA (name 0) (consA (konst (.int 3)) nilA))) (konst (.int 0)))) (useA tupD (consA (konst (.str "stay")) nilA)) (frzD (callE (f__law_deed c) (consA (name 0) (consA (name 2) nilA))))) nilA))))))
noncomputable def T__law_told_6 (c : Cs) : List Sl → SO :=
  (seqS (setS 5 (useA lstD nilA))
  (T__law_told_5 c))
noncomputable def T__law_told_7 (c : Cs) : List Sl → SO :=
  (seqS (forS (anyI (nameFD 2)) (putG 4) (T__law_told_6 c))
  (retS (frzD (prsE [((konst (.str "signs")), (nameFD 1)), ((konst (.str "modes")), (nameFD 3)), ((konst (.str "first")), (frzD (callE (f__law_pick c) (consA (name 0) (consA (name 2) nilA))))), ((konst (.str "deep")), (frzD (use2 addD (konst (.int 1)) (callE (f__law_take c) (consA (name 0) (consA (konst (.int 3)) nilA))))))] []))))
noncomputable def T__law_told_8 (c : Cs) : List Sl → SO :=
  (seqS (parS 2 3 (consA (sliceE (useA lstD (consA (konst (.str "m")) (consA (konst (.str "n")) (consA (konst (.str "o")) nilA)))) partN (partO (use2 addD (konst (.int 1)) (callE (f__law_take c) (consA (name 0) (consA (konst (.int 3)) nilA)))))) (consA dnewE nilA)))
  (T__law_told_7 c))
noncomputable def T__law_told (c : Cs) : List Sl → SO :=
  (T__law_told_8 c)
noncomputable def f__law_told (c : Cs) : List (M × D) → FO := bodyF 10 (T__law_told c)
theorem ok__law_told (Fa : Facts K mg c) : FnOk P w K mg base (L2.CX P w) 5 Fa.a__law_told Fa.fd__law_told ["draw", "signs"] (spF K 2 (f__law_told c)) := by
  refine fn_okF (N := N__law_told) (T := T__law_told c) Fa.F__law_told sc__law_told fun cdv A outer s H E hr => ?_
  have hu := Room.u64 hr
  unfold T__law_told T__law_told_8 T__law_told_7 T__law_told_6 T__law_told_5 T__law_told_4 T__law_told_3 T__law_told_2 T__law_told_1
  exact (fss_cons (fs_par rfl sc__law_told.nd rfl rfl (by decide) rfl rfl (fa_cons (fe_slice (fe_lst (fa_cons fe_str (fa_cons fe_str (fa_cons fe_str fa_nil)))) fp_none (fp_some (fe_add fe_int (fe_call (ok__law_take Fa) (hr.mono (by decide)) rfl Fa.g__law_take Fa.F__law_take.kp Fa.b__law_take (takes_of rfl rfl rfl rfl) (fa_cons (fe_name (pv 0)) (fa_cons fe_int fa_nil)) (len_cons (len_cons len_nil)))))) (fa_cons fe_dnew fa_nil)) rfl)
  (fss_cons (fs_for (passes_of rfl) rfl (fi_any (fe_nameFD (pv 2))) (fg_name (i := 4) sc__law_told.nd rfl (by first | exact Or.inl rfl | exact Or.inr rfl)) (fss_cons (fs_set sc__law_told.nd rfl (by first | exact Or.inl rfl | exact Or.inr rfl) (fe_lst fa_nil))
  (fss_cons (fs_for (passes_of rfl) rfl (fi_range1 rfl Fa.n_range (fa_cons (fe_call (ok__law_take Fa) (hr.mono (by decide)) rfl Fa.g__law_take Fa.F__law_take.kp Fa.b__law_take (takes_of rfl rfl rfl rfl) (fa_cons (fe_name (pv 0)) (fa_cons fe_int fa_nil)) (len_cons (len_cons len_nil))) fa_nil)) (fg_name (i := 6) sc__law_told.nd rfl (by first | exact Or.inl rfl | exact Or.inr rfl)) (fss_cons (fs_set sc__law_told.nd rfl (by first | exact Or.inl rfl | exact Or.inr rfl) (fe_orT (fe_frzD (fe_callTy b_tuple rfl Fa.n_tuple boot_tuple (fa_cons (fe_lc (own := [("sign", 9)]) rfl sc__law_told.nd (fi_any (fe_nameFD (pv 1))) (blkOk_by (by first | rfl | decide +kernel | with_unfolding_all rfl)) (fun _ _ _ _ _ => (fg_name (i := 9) sc__law_told.nd rfl (by first | exact Or.inl rfl | exact Or.inr rfl))) (fun _ _ _ _ _ => (fts_one (ft_cmpF (c_eq hu) (fe_call (ok__law_take Fa) (hr.mono (by decide)) rfl Fa.g__law_take Fa.F__law_take.kp Fa.b__law_take takes0 (fa_cons (fe_name (pv 0)) (fa_cons fe_int fa_nil)) (len_cons (len_cons len_nil))) fe_int))) (fun _ _ _ _ _ => (fe_nameFD (pv 9)))) fa_nil))) (fe_one (fe_tup (fa_cons (fe_frzD (fe_ix hu (fe_name (pv 1)) fe_int)) fa_nil)))))
  (fss_cons (fs_set sc__law_told.nd rfl (by first | exact Or.inl rfl | exact Or.inr rfl) (fe_if (ft_cmpF c_gt (fe_call (ok__law_take Fa) (hr.mono (by decide)) rfl Fa.g__law_take Fa.F__law_take.kp Fa.b__law_take (takes_of rfl rfl rfl rfl) (fa_cons (fe_name (pv 0)) (fa_cons fe_int fa_nil)) (len_cons (len_cons len_nil))) fe_int) fe_non (fe_callTy b_tuple rfl Fa.n_tuple boot_tuple (fa_cons (fe_lc (own := [("sign", 9)]) rfl sc__law_told.nd (fi_any (fe_frzD (fe_add (fe_callTy (b_list rfl) rfl Fa.n_list boot_list (fa_cons (fe_name (pv 1)) fa_nil)) (fe_lst (fa_cons fe_str fa_nil))))) (blkOk_by (by first | rfl | decide +kernel | with_unfolding_all rfl)) (fun _ _ _ _ _ => (fg_name (i := 9) sc__law_told.nd rfl (by first | exact Or.inl rfl | exact Or.inr rfl))) (fun _ _ _ _ _ => (fts_one (ft_cmpF (c_eq hu) (fe_call (ok__law_take Fa) (hr.mono (by decide)) rfl Fa.g__law_take Fa.F__law_take.kp Fa.b__law_take takes0 (fa_cons (fe_name (pv 0)) (fa_cons fe_int fa_nil)) (len_cons (len_cons len_nil))) fe_int))) (fun _ _ _ _ _ => (fe_nameFD (pv 9)))) fa_nil))))
  (fss_one (fs_expr (fe_append (pv 5) (fe_tup (fa_cons (fe_nameFD (pv 7)) (fa_cons (fe_nameFD (pv 8)) (fa_cons (fe_frzD (fe_call (ok__law_pick Fa) (hr.mono (by decide)) rfl Fa.g__law_pick Fa.F__law_pick.kp Fa.b__law_pick (takes_of rfl rfl rfl rfl) (fa_cons (fe_name (pv 0)) (fa_cons (fe_frzD (fe_lst (fa_cons fe_str (fa_cons fe_str (fa_cons fe_str fa_nil))))) fa_nil)) (len_cons (len_cons len_nil)))) (fa_cons (fe_frzD (fe_call (ok__law_deed Fa) (hr.mono (by decide)) rfl Fa.g__law_deed Fa.F__law_deed.kp Fa.b__law_deed (takes_of rfl rfl rfl rfl) (fa_cons (fe_name (pv 0)) (fa_cons (fe_name (pv 2)) fa_nil)) (len_cons (len_cons len_nil)))) fa_nil)))))))))))
  (fss_one (fs_setIx hu (pv 3) (fe_name (pv 4)) (fe_tup (fa_cons (fe_frzD (fe_callTy b_tuple rfl Fa.n_tuple boot_tuple (fa_cons (fe_name (pv 5)) fa_nil))) (fa_cons (fe_frzD (fe_call (ok__law_pick Fa) (hr.mono (by decide)) rfl Fa.g__law_pick Fa.F__law_pick.kp Fa.b__law_pick (takes_of rfl rfl rfl rfl) (fa_cons (fe_name (pv 0)) (fa_cons (fe_frzD (fe_lst (fa_cons fe_str (fa_cons fe_str (fa_cons fe_str fa_nil))))) fa_nil)) (len_cons (len_cons len_nil)))) (fa_cons (fe_if (ft_cmpF c_gt (fe_call (ok__law_take Fa) (hr.mono (by decide)) rfl Fa.g__law_take Fa.F__law_take.kp Fa.b__law_take (takes_of rfl rfl rfl rfl) (fa_cons (fe_name (pv 0)) (fa_cons fe_int fa_nil)) (len_cons (len_cons len_nil))) fe_int) (fe_tup (fa_cons fe_str fa_nil)) (fe_frzD (fe_call (ok__law_deed Fa) (hr.mono (by decide)) rfl Fa.g__law_deed Fa.F__law_deed.kp Fa.b__law_deed (takes_of rfl rfl rfl rfl) (fa_cons (fe_name (pv 0)) (fa_cons (fe_name (pv 2)) fa_nil)) (len_cons (len_cons len_nil))))) fa_nil)))))))))
  (fss_one (fs_ret (fe_frzD (fe_disp (fps_cons fe_str (fe_nameFD (pv 1)) (fps_cons fe_str (fe_nameFD (pv 3)) (fps_cons fe_str (fe_frzD (fe_call (ok__law_pick Fa) (hr.mono (by decide)) rfl Fa.g__law_pick Fa.F__law_pick.kp Fa.b__law_pick (takes_of rfl rfl rfl rfl) (fa_cons (fe_name (pv 0)) (fa_cons (fe_name (pv 2)) fa_nil)) (len_cons (len_cons len_nil)))) (fps_cons fe_str (fe_frzD (fe_add fe_int (fe_call (ok__law_take Fa) (hr.mono (by decide)) rfl Fa.g__law_take Fa.F__law_take.kp Fa.b__law_take (takes_of rfl rfl rfl rfl) (fa_cons (fe_name (pv 0)) (fa_cons fe_int fa_nil)) (len_cons (len_cons len_nil))))) fps_nil))))))))))

def N__law_row : List Str := ["told", "mode", "sign", "late", "signs", "nexts", "colour", "deed"]
theorem sc__law_row : FnScope N__law_row ["told", "mode", "sign", "late"] (defScope s__law_row) := ⟨rfl, rfl, rfl, by decide +kernel, rfl, by decide +kernel, by decide +kernel⟩
noncomputable def T__law_row_1 (c : Cs) : List Sl → SO :=
  (ifS (andB (isB (use2 inDD (name 2) (name 4))) (orB (isB (use2 (isD id) (name 5) (konst .non))) (isB (use2 inDD (name 3) (name 5))))) (retS (useA tupD (consA (nameFD 6) (consA (nameFD 7) nilA)))) nextS)
noncomputable def T__law_row_2 (c : Cs) : List Sl → SO :=
  (seqS (forS (anyI (frzD (use2 ixDD (use2 ixDD (use2 ixDD (name 0) (konst (.str "modes"))) (name 1)) (konst (.int 0))))) (tupG 4 (consG (putG 4) (consG (putG 5) (consG (putG 6) (consG (putG 7) nilG))))) (T__law_row_1 c))
  (retS (useA tupD (consA (frzD (use2 ixDD (use2 ixDD (use2 ixDD (name 0) (konst (.str "modes"))) (name 1)) (konst (.int 1)))) (consA (useA tupD (consA (konst (.str "stay")) nilA)) nilA)))))
noncomputable def T__law_row (c : Cs) : List Sl → SO :=
  (T__law_row_2 c)
noncomputable def f__law_row (c : Cs) : List (M × D) → FO := bodyF 8 (T__law_row c)
theorem ok__law_row (Fa : Facts K mg c) : FnOk P w K mg base (L2.CX P w) 1 Fa.a__law_row Fa.fd__law_row ["told", "mode", "sign", "late"] (spF K 4 (f__law_row c)) := by
  refine fn_okF (N := N__law_row) (T := T__law_row c) Fa.F__law_row sc__law_row fun cdv A outer s H E hr => ?_
  have hu := Room.u64 hr
  unfold T__law_row T__law_row_2 T__law_row_1
  exact (fss_cons (fs_for (passes_of rfl) rfl (fi_any (fe_frzD (fe_ix hu (fe_ix hu (fe_ix hu (fe_name (pv 0)) fe_str) (fe_name (pv 1))) fe_int))) (fg_tup (n := 4) rfl (fgs_cons (fg_name (i := 4) sc__law_row.nd rfl (by first | exact Or.inl rfl | exact Or.inr rfl)) (fgs_cons (fg_name (i := 5) sc__law_row.nd rfl (by first | exact Or.inl rfl | exact Or.inr rfl)) (fgs_cons (fg_name (i := 6) sc__law_row.nd rfl (by first | exact Or.inl rfl | exact Or.inr rfl)) (fgs_cons (fg_name (i := 7) sc__law_row.nd rfl (by first | exact Or.inl rfl | exact Or.inr rfl)) fgs_nil))))) (fss_one (fs_if (FW.ft (fw_and (ft_cmpF (c_in hu) (fe_name (pv 2)) (fe_name (pv 4))) (fw_and1 (FW.ft (fw_or (ft_cmpF c_is (fe_name (pv 5)) fe_non) (fw_or1 (ft_cmpF (c_in hu) (fe_name (pv 3)) (fe_name (pv 5))))))))) (fss_one (fs_ret (fe_tup (fa_cons (fe_nameFD (pv 6)) (fa_cons (fe_nameFD (pv 7)) fa_nil))))) fss_nil)))
  (fss_one (fs_ret (fe_tup (fa_cons (fe_frzD (fe_ix hu (fe_ix hu (fe_ix hu (fe_name (pv 0)) fe_str) (fe_name (pv 1))) fe_int)) (fa_cons (fe_tup (fa_cons fe_str fa_nil)) fa_nil))))))

def N__law_done : List Str := ["told", "stack", "deed"]
theorem sc__law_done : FnScope N__law_done ["told", "stack", "deed"] (defScope s__law_done) := ⟨rfl, rfl, rfl, by decide +kernel, rfl, by decide +kernel, by decide +kernel⟩
noncomputable def T__law_done_1 (c : Cs) : List Sl → SO :=
  (seqS (ifS (isB (use2 eqDD (use2 ixDD (name 2) (konst (.int 0))) (konst (.str "pop")))) (retS (ifE (isB (use2 gtD (useA lenD (consA (name 1) nilA)) (konst (.int 1)))) (frzD (sliceE (name 1) partN (partO (use1 negD (konst (.int 1)))))) (nameFD 1))) nextS)
  (retS (ifE (isB (use2 eqDD (use2 ixDD (name 2) (konst (.int 0))) (konst (.str "swap")))) (frzD (use2 addD (sliceE (name 1) partN (partO (use1 negD (konst (.int 1))))) (useA tupD (consA (frzD (use2 ixDD (name 2) (konst (.int 1)))) nilA)))) (nameFD 1))))
noncomputable def T__law_done_2 (c : Cs) : List Sl → SO :=
  (seqS (ifS (isB (use2 eqDD (use2 ixDD (name 2) (konst (.int 0))) (konst (.str "push")))) (retS (ifE (isB (use2 ltD (useA lenD (consA (name 1) nilA)) (use2 ixDD (name 0) (konst (.str "deep"))))) (frzD (use2 addD (name 1) (useA tupD (consA (frzD (use2 ixDD (name 2) (konst (.int 1)))) nilA)))) (nameFD 1))) nextS)
  (T__law_done_1 c))
noncomputable def T__law_done (c : Cs) : List Sl → SO :=
  (T__law_done_2 c)
noncomputable def f__law_done (c : Cs) : List (M × D) → FO := bodyF 3 (T__law_done c)
theorem ok__law_done (Fa : Facts K mg c) : FnOk P w K mg base (L2.CX P w) 1 Fa.a__law_done Fa.fd__law_done ["told", "stack", "deed"] (spF K 3 (f__law_done c)) := by
  refine fn_okF (N := N__law_done) (T := T__law_done c) Fa.F__law_done sc__law_done fun cdv A outer s H E hr => ?_
  have hu := Room.u64 hr
  unfold T__law_done T__law_done_2 T__law_done_1
  exact (fss_cons (fs_if (ft_cmpF (c_eq hu) (fe_ix hu (fe_name (pv 2)) fe_int) fe_str) (fss_one (fs_ret (fe_if (ft_cmpF c_lt (fe_callB b_len rfl Fa.n_len boot_len (fa_cons (fe_name (pv 1)) fa_nil)) (fe_ix hu (fe_name (pv 0)) fe_str)) (fe_frzD (fe_add (fe_name (pv 1)) (fe_tup (fa_cons (fe_frzD (fe_ix hu (fe_name (pv 2)) fe_int)) fa_nil)))) (fe_nameFD (pv 1))))) fss_nil)
  (fss_cons (fs_if (ft_cmpF (c_eq hu) (fe_ix hu (fe_name (pv 2)) fe_int) fe_str) (fss_one (fs_ret (fe_if (ft_cmpF c_gt (fe_callB b_len rfl Fa.n_len boot_len (fa_cons (fe_name (pv 1)) fa_nil)) fe_int) (fe_frzD (fe_slice (fe_name (pv 1)) fp_none (fp_some (fe_negD fe_int)))) (fe_nameFD (pv 1))))) fss_nil)
  (fss_one (fs_ret (fe_if (ft_cmpF (c_eq hu) (fe_ix hu (fe_name (pv 2)) fe_int) fe_str) (fe_frzD (fe_add (fe_slice (fe_name (pv 1)) fp_none (fp_some (fe_negD fe_int))) (fe_tup (fa_cons (fe_frzD (fe_ix hu (fe_name (pv 2)) fe_int)) fa_nil)))) (fe_nameFD (pv 1)))))))

def N__law_line : List Str := ["told", "stack", "line", "colours", "at", "sign", "colour", "deed", "met", "turn"]
theorem sc__law_line : FnScope N__law_line ["told", "stack", "line"] (defScope s__law_line) := ⟨rfl, rfl, rfl, by decide +kernel, rfl, by decide +kernel, by decide +kernel⟩
noncomputable def T__law_line_1 (c : Cs) : List Sl → SO :=
  (seqS (dropS (appE 3 (nameFD 6)))
  (setS 1 (callE (f__law_done c) (consA (name 0) (consA (name 1) (consA (name 7) nilA))))))
noncomputable def T__law_line_2 (c : Cs) : List Sl → SO :=
  (seqS (asgS (frzD (callE (f__law_row c) (consA (name 0) (consA (frzD (use2 ixDD (name 1) (use1 negD (konst (.int 1))))) (consA (name 5) (consA (ifE (isB (use2 ltD (use2 addD (name 4) (konst (.int 1))) (useA lenD (consA (name 2) nilA)))) (frzD (use2 ixDD (name 2) (use2 addD (name 4) (konst (.int 1))))) (konst (.str ""))) nilA)))))) (tupG 2 (consG (putG 6) (consG (putG 7) nilG))))
  (T__law_line_1 c))
noncomputable def T__law_line_3 (c : Cs) : List Sl → SO :=
  (seqS (dropS (appE 8 (frzD (use2 ixDD (name 1) (use1 negD (konst (.int 1)))))))
  (setS 1 (callE (f__law_done c) (consA (name 0) (consA (name 1) (consA (frzD (use2 ixDD (use2 ixDD (use2 ixDD (name 0) (konst (.str "modes"))) (use2 ixDD (name 1) (use1 negD (konst (.int 1))))) (konst (.int 2)))) nilA))))))
noncomputable def T__law_line_4 (c : Cs) : List Sl → SO :=
  (seqS (ifS (isB (use2 inDD (use2 ixDD (name 1) (use1 negD (konst (.int 1)))) (name 8))) (fun ρ => .bk ρ) nextS)
  (T__law_line_3 c))
noncomputable def T__law_line_5 (c : Cs) : List Sl → SO :=
  (seqS (forS (rangeI (consA (use2 addD (useA lenD (consA (use2 ixDD (name 0) (konst (.str "modes"))) nilA)) (konst (.int 1))) nilA)) (putG 9) (T__law_line_4 c))
  (retS (useA tupD (consA (frzD (useA tupC (consA (name 3) nilA))) (consA (nameFD 1) nilA)))))
noncomputable def T__law_line_6 (c : Cs) : List Sl → SO :=
  (seqS (setS 8 (useA lstD nilA))
  (T__law_line_5 c))
noncomputable def T__law_line_7 (c : Cs) : List Sl → SO :=
  (seqS (forS (enumI2 (nameFD 2)) (tupG 2 (consG (putG 4) (consG (putG 5) nilG))) (T__law_line_2 c))
  (T__law_line_6 c))
noncomputable def T__law_line_8 (c : Cs) : List Sl → SO :=
  (seqS (setS 3 (useA lstD nilA))
  (T__law_line_7 c))
noncomputable def T__law_line (c : Cs) : List Sl → SO :=
  (T__law_line_8 c)
noncomputable def f__law_line (c : Cs) : List (M × D) → FO := bodyF 10 (T__law_line c)
theorem ok__law_line (Fa : Facts K mg c) : FnOk P w K mg base (L2.CX P w) 2 Fa.a__law_line Fa.fd__law_line ["told", "stack", "line"] (spF K 3 (f__law_line c)) := by
  refine fn_okF (N := N__law_line) (T := T__law_line c) Fa.F__law_line sc__law_line fun cdv A outer s H E hr => ?_
  have hu := Room.u64 hr
  unfold T__law_line T__law_line_8 T__law_line_7 T__law_line_6 T__law_line_5 T__law_line_4 T__law_line_3 T__law_line_2 T__law_line_1
  exact (fss_cons (fs_set sc__law_line.nd rfl (by first | exact Or.inl rfl | exact Or.inr rfl) (fe_lst fa_nil))
  (fss_cons (fs_for (passes_of rfl) rfl (fi_enum2 rfl Fa.n_enumerate (fe_nameFD (pv 2))) (fg_tup (n := 2) rfl (fgs_cons (fg_name (i := 4) sc__law_line.nd rfl (by first | exact Or.inl rfl | exact Or.inr rfl)) (fgs_cons (fg_name (i := 5) sc__law_line.nd rfl (by first | exact Or.inl rfl | exact Or.inr rfl)) fgs_nil))) (fss_cons (fs_asg (fe_frzD (fe_call (ok__law_row Fa) (hr.mono (by decide)) rfl Fa.g__law_row Fa.F__law_row.kp Fa.b__law_row (takes_of rfl rfl rfl rfl) (fa_cons (fe_name (pv 0)) (fa_cons (fe_frzD (fe_ix hu (fe_name (pv 1)) (fe_negD fe_int))) (fa_cons (fe_name (pv 5)) (fa_cons (fe_if (ft_cmpF c_lt (fe_add (fe_name (pv 4)) fe_int) (fe_callB b_len rfl Fa.n_len boot_len (fa_cons (fe_name (pv 2)) fa_nil))) (fe_frzD (fe_ix hu (fe_name (pv 2)) (fe_add (fe_name (pv 4)) fe_int))) fe_str) fa_nil)))) (len_cons (len_cons (len_cons (len_cons len_nil)))))) (fg_tup (n := 2) rfl (fgs_cons (fg_name (i := 6) sc__law_line.nd rfl (by first | exact Or.inl rfl | exact Or.inr rfl)) (fgs_cons (fg_name (i := 7) sc__law_line.nd rfl (by first | exact Or.inl rfl | exact Or.inr rfl)) fgs_nil))))
  (fss_cons (fs_expr (fe_append (pv 3) (fe_nameFD (pv 6))))
  (fss_one (fs_set sc__law_line.nd rfl (by first | exact Or.inl rfl | exact Or.inr rfl) (fe_call (ok__law_done Fa) (hr.mono (by decide)) rfl Fa.g__law_done Fa.F__law_done.kp Fa.b__law_done (takes_of rfl rfl rfl rfl) (fa_cons (fe_name (pv 0)) (fa_cons (fe_name (pv 1)) (fa_cons (fe_name (pv 7)) fa_nil))) (len_cons (len_cons (len_cons len_nil)))))))))
  (fss_cons (fs_set sc__law_line.nd rfl (by first | exact Or.inl rfl | exact Or.inr rfl) (fe_lst fa_nil))
  (fss_cons (fs_for (passes_of rfl) rfl (fi_range1 rfl Fa.n_range (fa_cons (fe_add (fe_callB b_len rfl Fa.n_len boot_len (fa_cons (fe_ix hu (fe_name (pv 0)) fe_str) fa_nil)) fe_int) fa_nil)) (fg_name (i := 9) sc__law_line.nd rfl (by first | exact Or.inl rfl | exact Or.inr rfl)) (fss_cons (fs_if (ft_cmpF (c_in hu) (fe_ix hu (fe_name (pv 1)) (fe_negD fe_int)) (fe_name (pv 8))) (fss_one fs_break) fss_nil)
  (fss_cons (fs_expr (fe_append (pv 8) (fe_frzD (fe_ix hu (fe_name (pv 1)) (fe_negD fe_int)))))
  (fss_one (fs_set sc__law_line.nd rfl (by first | exact Or.inl rfl | exact Or.inr rfl) (fe_call (ok__law_done Fa) (hr.mono (by decide)) rfl Fa.g__law_done Fa.F__law_done.kp Fa.b__law_done (takes_of rfl rfl rfl rfl) (fa_cons (fe_name (pv 0)) (fa_cons (fe_name (pv 1)) (fa_cons (fe_frzD (fe_ix hu (fe_ix hu (fe_ix hu (fe_name (pv 0)) fe_str) (fe_ix hu (fe_name (pv 1)) (fe_negD fe_int))) fe_int)) fa_nil))) (len_cons (len_cons (len_cons len_nil)))))))))
  (fss_one (fs_ret (fe_tup (fa_cons (fe_frzD (fe_callTy b_tuple rfl Fa.n_tuple boot_tuple (fa_cons (fe_name (pv 3)) fa_nil))) (fa_cons (fe_nameFD (pv 1)) fa_nil)))))))))

def N__law_text : List Str := ["told", "stack", "lines", "found", "line", "colours", "late"]
theorem sc__law_text : FnScope N__law_text ["told", "stack", "lines"] (defScope s__law_text) := ⟨rfl, rfl, rfl, by decide +kernel, rfl, by decide +kernel, by decide +kernel⟩
noncomputable def T__law_text_1 (c : Cs) : List Sl → SO :=
  (seqS (dropS (appE 3 (useA tupD (consA (nameFD 1) (consA (nameFD 5) nilA)))))
  (setS 1 (nameFD 6)))
noncomputable def T__law_text_2 (c : Cs) : List Sl → SO :=
  (seqS (asgS (frzD (callE (f__law_line c) (consA (name 0) (consA (name 1) (consA (name 4) nilA))))) (tupG 2 (consG (putG 5) (consG (putG 6) nilG))))
  (T__law_text_1 c))
noncomputable def T__law_text_3 (c : Cs) : List Sl → SO :=
  (seqS (forS (anyI (nameFD 2)) (putG 4) (T__law_text_2 c))
  (retS (useA tupD (consA (nameFD 3) (consA (nameFD 1) nilA)))))
noncomputable def T__law_text_4 (c : Cs) : List Sl → SO :=
  (seqS (setS 3 (useA lstD nilA))
  (T__law_text_3 c))
noncomputable def T__law_text (c : Cs) : List Sl → SO :=
  (T__law_text_4 c)
noncomputable def f__law_text (c : Cs) : List (M × D) → FO := bodyF 7 (T__law_text c)
theorem ok__law_text (Fa : Facts K mg c) : FnOk P w K mg base (L2.CX P w) 3 Fa.a__law_text Fa.fd__law_text ["told", "stack", "lines"] (spF K 3 (f__law_text c)) := by
  refine fn_okF (N := N__law_text) (T := T__law_text c) Fa.F__law_text sc__law_text fun cdv A outer s H E hr => ?_
  have hu := Room.u64 hr
  unfold T__law_text T__law_text_4 T__law_text_3 T__law_text_2 T__law_text_1
  exact (fss_cons (fs_set sc__law_text.nd rfl (by first | exact Or.inl rfl | exact Or.inr rfl) (fe_lst fa_nil))
  (fss_cons (fs_for (passes_of rfl) rfl (fi_any (fe_nameFD (pv 2))) (fg_name (i := 4) sc__law_text.nd rfl (by first | exact Or.inl rfl | exact Or.inr rfl)) (fss_cons (fs_asg (fe_frzD (fe_call (ok__law_line Fa) (hr.mono (by decide)) rfl Fa.g__law_line Fa.F__law_line.kp Fa.b__law_line (takes_of rfl rfl rfl rfl) (fa_cons (fe_name (pv 0)) (fa_cons (fe_name (pv 1)) (fa_cons (fe_name (pv 4)) fa_nil))) (len_cons (len_cons (len_cons len_nil))))) (fg_tup (n := 2) rfl (fgs_cons (fg_name (i := 5) sc__law_text.nd rfl (by first | exact Or.inl rfl | exact Or.inr rfl)) (fgs_cons (fg_name (i := 6) sc__law_text.nd rfl (by first | exact Or.inl rfl | exact Or.inr rfl)) fgs_nil))))
  (fss_cons (fs_expr (fe_append (pv 3) (fe_tup (fa_cons (fe_nameFD (pv 1)) (fa_cons (fe_nameFD (pv 5)) fa_nil)))))
  (fss_one (fs_set sc__law_text.nd rfl (by first | exact Or.inl rfl | exact Or.inr rfl) (fe_nameFD (pv 6)))))))
  (fss_one (fs_ret (fe_tup (fa_cons (fe_nameFD (pv 3)) (fa_cons (fe_nameFD (pv 1)) fa_nil)))))))

def N_BadBook___init__ : List Str := ["self", "part", "mode", "number"]
theorem sc_BadBook___init__ : FnScope N_BadBook___init__ ["self", "part", "mode", "number"] (defScope s_BadBook___init__) := ⟨rfl, rfl, rfl, by decide +kernel, rfl, by decide +kernel, by decide +kernel⟩
def fns_BadBook : List Str := ["part", "mode", "number"]
theorem ok_BadBook___init__ (Fa : Facts K mg c) : FnOk P w K mg base (L2.CX P w) 1 Fa.a_BadBook___init__ Fa.fd_BadBook___init__ ["self", "part", "mode", "number"] (spX c.BadBook fns_BadBook) := by
  refine fn_initX (N := N_BadBook___init__) (l := [("part", 1), ("mode", 2), ("number", 3)]) Fa.oex_BadBook Fa.F_BadBook___init__ sc_BadBook___init__ (by simp) (by decide) rfl (by decide) (fun j p h => ?_) (fun p hp => ?_) fun cdv A outer s H E hr => ?_
  · match j, h with
    | 0, h => cases h; rfl
    | 1, h => cases h; rfl
    | 2, h => cases h; rfl
  · simp only [List.mem_cons, List.not_mem_nil, or_false] at hp
    rcases hp with rfl | rfl | rfl
    · exact Fa.no_BadBook_part
    · exact Fa.no_BadBook_mode
    · exact Fa.no_BadBook_number
  · exact (pss_cons (ps_ost (pv 0) (pv 1)) (pss_cons (ps_ost (pv 0) (pv 2)) (pss_cons (ps_ost (pv 0) (pv 3)) pss_nil)))

def N_is_row : List Str := ["thing"]
theorem sc_is_row : FnScope N_is_row ["thing"] (defScope s_is_row) := ⟨rfl, rfl, rfl, by decide +kernel, rfl, by decide +kernel, by decide +kernel⟩
noncomputable def T_is_row (c : Cs) : List Sl → SO :=
  (retS (frzD (use1 (isiO ["list", "tuple"] (own_no c)) (name 0))))
noncomputable def f_is_row (c : Cs) : List (M × D) → FO := bodyF 1 (T_is_row c)
theorem ok_is_row (Fa : Facts K mg c) : FnOk P w K mg base (L2.CX P w) 1 Fa.a_is_row Fa.fd_is_row ["thing"] (spF K 1 (f_is_row c)) := by
  refine fn_okF (N := N_is_row) (T := T_is_row c) Fa.F_is_row sc_is_row fun cdv A outer s H E hr => ?_
  have hu := Room.u64 hr
  unfold T_is_row
  exact (fss_one (fs_ret (fe_frzD (fe_isiTU (m1 := "list") (m2 := "tuple") rfl rfl (by decide) (by decide) (Fa.isi_no "list" "tuple" (by decide) (by decide)) rfl Fa.n_isinstance rfl Fa.n_list boot_list rfl Fa.n_tuple boot_tuple (fe_name (pv 0))))))

def N_is_name : List Str := ["thing", "sign"]
theorem sc_is_name : FnScope N_is_name ["thing"] (defScope s_is_name) := ⟨rfl, rfl, rfl, by decide +kernel, rfl, by decide +kernel, by decide +kernel⟩
noncomputable def T_is_name_1 (c : Cs) : List Sl → EO :=
  (lcE [1] (anyI (nameFD 0)) (putG 1) yesB (orE (use2 inDD (name 1) (konst (.str "abcdefghijklmnopqrstuvwxyz"))) (use2 inDD (name 1) (konst (.str "0123456789")))))
noncomputable def T_is_name_2 (c : Cs) : List Sl → SO :=
  (seqS (ifS (orB (notB (tru (use1 (isiO ["str"] (own_no c)) (name 0)))) (orB (notB (isB (chainE leD leD (konst (.int 1)) (useA lenD (consA (name 0) nilA)) (konst (.int 8))))) (isB (use2 notInDD (use2 ixDD (name 0) (konst (.int 0))) (konst (.str "abcdefghijklmnopqrstuvwxyz")))))) (retS (konst (.bl false))) nextS)
  (retS (frzD (useA allD (consA (T_is_name_1 c) nilA)))))
noncomputable def T_is_name (c : Cs) : List Sl → SO :=
  (T_is_name_2 c)
noncomputable def f_is_name (c : Cs) : List (M × D) → FO := bodyF 2 (T_is_name c)
theorem ok_is_name (Fa : Facts K mg c) : FnOk P w K mg base (L2.CX P w) 1 Fa.a_is_name Fa.fd_is_name ["thing"] (spF K 1 (f_is_name c)) := by
  refine fn_okF (N := N_is_name) (T := T_is_name c) Fa.F_is_name sc_is_name fun cdv A outer s H E hr => ?_
  have hu := Room.u64 hr
  unfold T_is_name T_is_name_2 T_is_name_1
  exact (fss_cons (fs_if (FW.ft (fw_or (ft_not (ft_val (fe_isiT (nm := "str") rfl (by decide) (Fa.isi_no1 "str" (by decide)) rfl Fa.n_isinstance rfl Fa.n_str boot_str (fe_name (pv 0))))) (fw_or (ft_not (ft_chain c_le c_le fe_int (fe_callB b_len rfl Fa.n_len boot_len (fa_cons (fe_name (pv 0)) fa_nil)) fe_int)) (fw_or1 (ft_cmpF (c_notIn hu) (fe_ix hu (fe_name (pv 0)) fe_int) (fe_gstr Fa.g_LETTERS rfl)))))) (fss_one (fs_ret fe_bl)) fss_nil)
  (fss_one (fs_ret (fe_frzD (fe_callB (b_all rfl) rfl Fa.n_all boot_all (fa_cons (fe_lc (own := [("sign", 1)]) rfl sc_is_name.nd (fi_any (fe_nameFD (pv 0))) (blkOk_by (by first | rfl | decide +kernel | with_unfolding_all rfl)) (fun _ _ _ _ _ => (fg_name (i := 1) sc_is_name.nd rfl (by first | exact Or.inl rfl | exact Or.inr rfl))) (fun _ _ _ _ _ => fts_nil) (fun _ _ _ _ _ => (fe_or (fe_cmp (c_in hu) (fe_name (pv 1)) (fe_gstr Fa.g_LETTERS rfl)) (fe_one (fe_cmp (c_in hu) (fe_name (pv 1)) (fe_gstr Fa.g_FIGURES rfl)))))) fa_nil))))))

def N_is_deed : List Str := ["modes", "deed"]
theorem sc_is_deed : FnScope N_is_deed ["modes", "deed"] (defScope s_is_deed) := ⟨rfl, rfl, rfl, by decide +kernel, rfl, by decide +kernel, by decide +kernel⟩
noncomputable def T_is_deed_1 (c : Cs) : List Sl → SO :=
  (seqS (ifS (isB (use2 eqDD (useA lenD (consA (name 1) nilA)) (konst (.int 1)))) (retS (use2 inDD (use2 ixDD (name 1) (konst (.int 0))) (useA tupD (consA (konst (.str "stay")) (consA (konst (.str "pop")) nilA))))) nextS)
  (retS (andE (use2 eqDD (useA lenD (consA (name 1) nilA)) (konst (.int 2))) (andE (use2 inDD (use2 ixDD (name 1) (konst (.int 0))) (useA tupD (consA (konst (.str "push")) (consA (konst (.str "swap")) nilA)))) (andE (use1 (isiO ["str"] (own_no c)) (use2 ixDD (name 1) (konst (.int 1)))) (use2 inDD (use2 ixDD (name 1) (konst (.int 1))) (name 0)))))))
noncomputable def T_is_deed_2 (c : Cs) : List Sl → SO :=
  (seqS (ifS (orB (notB (tru (callE (f_is_row c) (consA (name 1) nilA)))) (orB (isB (use2 eqDD (useA lenD (consA (name 1) nilA)) (konst (.int 0)))) (notB (tru (use1 (isiO ["str"] (own_no c)) (use2 ixDD (name 1) (konst (.int 0)))))))) (retS (konst (.bl false))) nextS)
  (T_is_deed_1 c))
noncomputable def T_is_deed (c : Cs) : List Sl → SO :=
  (T_is_deed_2 c)
noncomputable def f_is_deed (c : Cs) : List (M × D) → FO := bodyF 2 (T_is_deed c)
theorem ok_is_deed (Fa : Facts K mg c) : FnOk P w K mg base (L2.CX P w) 2 Fa.a_is_deed Fa.fd_is_deed ["modes", "deed"] (spF K 2 (f_is_deed c)) := by
  refine fn_okF (N := N_is_deed) (T := T_is_deed c) Fa.F_is_deed sc_is_deed fun cdv A outer s H E hr => ?_
  have hu := Room.u64 hr
  unfold T_is_deed T_is_deed_2 T_is_deed_1
  exact (fss_cons (fs_if (FW.ft (fw_or (ft_not (ft_val (fe_call (ok_is_row Fa) (hr.mono (by decide)) rfl Fa.g_is_row Fa.F_is_row.kp Fa.b_is_row (takes_of rfl rfl rfl rfl) (fa_cons (fe_name (pv 1)) fa_nil) (len_cons len_nil)))) (fw_or (ft_cmpF (c_eq hu) (fe_callB b_len rfl Fa.n_len boot_len (fa_cons (fe_name (pv 1)) fa_nil)) fe_int) (fw_or1 (ft_not (ft_val (fe_isiT (nm := "str") rfl (by decide) (Fa.isi_no1 "str" (by decide)) rfl Fa.n_isinstance rfl Fa.n_str boot_str (fe_ix hu (fe_name (pv 1)) fe_int)))))))) (fss_one (fs_ret fe_bl)) fss_nil)
  (fss_cons (fs_if (ft_cmpF (c_eq hu) (fe_callB b_len rfl Fa.n_len boot_len (fa_cons (fe_name (pv 1)) fa_nil)) fe_int) (fss_one (fs_ret (fe_cmp (c_in hu) (fe_ix hu (fe_name (pv 1)) fe_int) (fe_tup (fa_cons fe_str (fa_cons fe_str fa_nil)))))) fss_nil)
  (fss_one (fs_ret (fe_and (fe_cmp (c_eq hu) (fe_callB b_len rfl Fa.n_len boot_len (fa_cons (fe_name (pv 1)) fa_nil)) fe_int) (fe_and (fe_cmp (c_in hu) (fe_ix hu (fe_name (pv 1)) fe_int) (fe_tup (fa_cons fe_str (fa_cons fe_str fa_nil)))) (fe_and (fe_isiT (nm := "str") rfl (by decide) (Fa.isi_no1 "str" (by decide)) rfl Fa.n_isinstance rfl Fa.n_str boot_str (fe_ix hu (fe_name (pv 1)) fe_int)) (fe_one (fe_cmp (c_in hu) (fe_ix hu (fe_name (pv 1)) fe_int) (fe_name (pv 0)))))))))))

def N_are_signs : List Str := ["signs", "some", "one"]
theorem sc_are_signs : FnScope N_are_signs ["signs", "some"] (defScope s_are_signs) := ⟨rfl, rfl, rfl, by decide +kernel, rfl, by decide +kernel, by decide +kernel⟩
noncomputable def T_are_signs_1 (c : Cs) : List Sl → EO :=
  (lcE [2] (anyI (nameFD 1)) (putG 2) yesB (andE (use1 (isiO ["str"] (own_no c)) (name 2)) (andE (use2 eqDD (useA lenD (consA (name 2) nilA)) (konst (.int 1))) (use2 inDD (name 2) (name 0)))))
noncomputable def T_are_signs_2 (c : Cs) : List Sl → SO :=
  (seqS (ifS (orB (notB (tru (callE (f_is_row c) (consA (name 1) nilA)))) (isB (use2 gtD (useA lenD (consA (name 1) nilA)) (konst (.int 12))))) (retS (konst (.bl false))) nextS)
  (retS (frzD (useA allD (consA (T_are_signs_1 c) nilA)))))
noncomputable def T_are_signs (c : Cs) : List Sl → SO :=
  (T_are_signs_2 c)
noncomputable def f_are_signs (c : Cs) : List (M × D) → FO := bodyF 3 (T_are_signs c)
theorem ok_are_signs (Fa : Facts K mg c) : FnOk P w K mg base (L2.CX P w) 2 Fa.a_are_signs Fa.fd_are_signs ["signs", "some"] (spF K 2 (f_are_signs c)) := by
  refine fn_okF (N := N_are_signs) (T := T_are_signs c) Fa.F_are_signs sc_are_signs fun cdv A outer s H E hr => ?_
  have hu := Room.u64 hr
  unfold T_are_signs T_are_signs_2 T_are_signs_1
  exact (fss_cons (fs_if (FW.ft (fw_or (ft_not (ft_val (fe_call (ok_is_row Fa) (hr.mono (by decide)) rfl Fa.g_is_row Fa.F_is_row.kp Fa.b_is_row (takes_of rfl rfl rfl rfl) (fa_cons (fe_name (pv 1)) fa_nil) (len_cons len_nil)))) (fw_or1 (ft_cmpF c_gt (fe_callB b_len rfl Fa.n_len boot_len (fa_cons (fe_name (pv 1)) fa_nil)) (fe_gint Fa.g_MOST_NEXTS rfl))))) (fss_one (fs_ret fe_bl)) fss_nil)
  (fss_one (fs_ret (fe_frzD (fe_callB (b_all rfl) rfl Fa.n_all boot_all (fa_cons (fe_lc (own := [("one", 2)]) rfl sc_are_signs.nd (fi_any (fe_nameFD (pv 1))) (blkOk_by (by first | rfl | decide +kernel | with_unfolding_all rfl)) (fun _ _ _ _ _ => (fg_name (i := 2) sc_are_signs.nd rfl (by first | exact Or.inl rfl | exact Or.inr rfl))) (fun _ _ _ _ _ => fts_nil) (fun _ _ _ _ _ => (fe_and (fe_isiT (nm := "str") rfl (by decide) (Fa.isi_no1 "str" (by decide)) rfl Fa.n_isinstance rfl Fa.n_str boot_str (fe_name (pv 2))) (fe_and (fe_cmp (c_eq hu) (fe_callB b_len rfl Fa.n_len boot_len (fa_cons (fe_name (pv 2)) fa_nil)) fe_int) (fe_one (fe_cmp (c_in hu) (fe_name (pv 2)) (fe_name (pv 0)))))))) fa_nil))))))

def N_are_nexts : List Str := ["signs", "some", "one"]
theorem sc_are_nexts : FnScope N_are_nexts ["signs", "some"] (defScope s_are_nexts) := ⟨rfl, rfl, rfl, by decide +kernel, rfl, by decide +kernel, by decide +kernel⟩
noncomputable def T_are_nexts_1 (c : Cs) : List Sl → EO :=
  (lcE [2] (anyI (nameFD 1)) (putG 2) (orB (notB (tru (use1 (isiO ["str"] (own_no c)) (name 2)))) (isB (use2 neDD (name 2) (konst (.str ""))))) (nameFD 2))
noncomputable def T_are_nexts_2 (c : Cs) : List Sl → SO :=
  (seqS (ifS (orB (notB (tru (callE (f_is_row c) (consA (name 1) nilA)))) (isB (use2 gtD (useA lenD (consA (name 1) nilA)) (konst (.int 12))))) (retS (konst (.bl false))) nextS)
  (retS (frzD (callE (f_are_signs c) (consA (name 0) (consA (frzD (T_are_nexts_1 c)) nilA))))))
noncomputable def T_are_nexts (c : Cs) : List Sl → SO :=
  (T_are_nexts_2 c)
noncomputable def f_are_nexts (c : Cs) : List (M × D) → FO := bodyF 3 (T_are_nexts c)
theorem ok_are_nexts (Fa : Facts K mg c) : FnOk P w K mg base (L2.CX P w) 3 Fa.a_are_nexts Fa.fd_are_nexts ["signs", "some"] (spF K 2 (f_are_nexts c)) := by
  refine fn_okF (N := N_are_nexts) (T := T_are_nexts c) Fa.F_are_nexts sc_are_nexts fun cdv A outer s H E hr => ?_
  have hu := Room.u64 hr
  unfold T_are_nexts T_are_nexts_2 T_are_nexts_1
  exact (fss_cons (fs_if (FW.ft (fw_or (ft_not (ft_val (fe_call (ok_is_row Fa) (hr.mono (by decide)) rfl Fa.g_is_row Fa.F_is_row.kp Fa.b_is_row (takes_of rfl rfl rfl rfl) (fa_cons (fe_name (pv 1)) fa_nil) (len_cons len_nil)))) (fw_or1 (ft_cmpF c_gt (fe_callB b_len rfl Fa.n_len boot_len (fa_cons (fe_name (pv 1)) fa_nil)) (fe_gint Fa.g_MOST_NEXTS rfl))))) (fss_one (fs_ret fe_bl)) fss_nil)
  (fss_one (fs_ret (fe_frzD (fe_call (ok_are_signs Fa) (hr.mono (by decide)) rfl Fa.g_are_signs Fa.F_are_signs.kp Fa.b_are_signs (takes_of rfl rfl rfl rfl) (fa_cons (fe_name (pv 0)) (fa_cons (fe_frzD (fe_lc (own := [("one", 2)]) rfl sc_are_nexts.nd (fi_any (fe_nameFD (pv 1))) (blkOk_by (by first | rfl | decide +kernel | with_unfolding_all rfl)) (fun _ _ _ _ _ => (fg_name (i := 2) sc_are_nexts.nd rfl (by first | exact Or.inl rfl | exact Or.inr rfl))) (fun _ _ _ _ _ => (fts_one (FW.ft (fw_or (ft_not (ft_val (fe_isiT (nm := "str") rfl (by decide) (Fa.isi_no1 "str" (by decide)) rfl Fa.n_isinstance rfl Fa.n_str boot_str (fe_name (pv 2))))) (fw_or1 (ft_cmpF (c_ne hu) (fe_name (pv 2)) fe_str)))))) (fun _ _ _ _ _ => (fe_nameFD (pv 2))))) fa_nil)) (len_cons (len_cons len_nil)))))))

def N_check_mode : List Str := ["signs", "modes", "name", "mode", "number", "row"]
theorem sc_check_mode : FnScope N_check_mode ["signs", "modes", "name"] (defScope s_check_mode) := ⟨rfl, rfl, rfl, by decide +kernel, rfl, by decide +kernel, by decide +kernel⟩
noncomputable def T_check_mode_1 (c : Cs) : List Sl → SO :=
  (seqS (ifS (orB (notB (tru (callE (f_is_row c) (consA (name 5) nilA)))) (orB (isB (use2 neDD (useA lenD (consA (name 5) nilA)) (konst (.int 4)))) (orB (notB (tru (callE (f_are_signs c) (consA (name 0) (consA (frzD (use2 ixDD (name 5) (konst (.int 0)))) nilA))))) (notB (tru (callE (f_is_name c) (consA (frzD (use2 ixDD (name 5) (konst (.int 2)))) nilA))))))) (raiseS c.BadBook fns_BadBook (consA (konst (.str "row")) (consA (nameFD 2) (consA (nameFD 4) nilA)))) nextS)
  (ifS (orB (andB (isB (use2 (isD not) (use2 ixDD (name 5) (konst (.int 1))) (konst .non))) (notB (tru (callE (f_are_nexts c) (consA (name 0) (consA (frzD (use2 ixDD (name 5) (konst (.int 1)))) nilA)))))) (notB (tru (callE (f_is_deed c) (consA (name 1) (consA (frzD (use2 ixDD (name 5) (konst (.int 3)))) nilA)))))) (raiseS c.BadBook fns_BadBook (consA (konst (.str "row")) (consA (nameFD 2) (consA (nameFD 4) nilA)))) nextS))
noncomputable def T_check_mode_2 (c : Cs) : List Sl → SO :=
  (seqS (forS (enumI2 (frzD (use2 ixDD (name 3) (konst (.int 0))))) (tupG 2 (consG (putG 4) (consG (putG 5) nilG))) (T_check_mode_1 c))
  (ifS (orB (notB (tru (callE (f_is_name c) (consA (frzD (use2 ixDD (name 3) (konst (.int 1)))) nilA)))) (notB (tru (callE (f_is_deed c) (consA (name 1) (consA (frzD (use2 ixDD (name 3) (konst (.int 2)))) nilA)))))) (raiseS c.BadBook fns_BadBook (consA (konst (.str "mode")) (consA (nameFD 2) (consA (konst .non) nilA)))) nextS))
noncomputable def T_check_mode_3 (c : Cs) : List Sl → SO :=
  (seqS (ifS (orB (notB (tru (callE (f_is_row c) (consA (name 3) nilA)))) (orB (isB (use2 neDD (useA lenD (consA (name 3) nilA)) (konst (.int 3)))) (orB (notB (tru (callE (f_is_row c) (consA (frzD (use2 ixDD (name 3) (konst (.int 0)))) nilA)))) (isB (use2 gtD (useA lenD (consA (use2 ixDD (name 3) (konst (.int 0))) nilA)) (konst (.int 8))))))) (raiseS c.BadBook fns_BadBook (consA (konst (.str "mode")) (consA (nameFD 2) (consA (konst .non) nilA)))) nextS)
  (T_check_mode_2 c))
noncomputable def T_check_mode_4 (c : Cs) : List Sl → SO :=
  (seqS (setS 3 (use2 ixDD (name 1) (name 2)))
  (T_check_mode_3 c))
noncomputable def T_check_mode (c : Cs) : List Sl → SO :=
  (T_check_mode_4 c)
noncomputable def f_check_mode (c : Cs) : List (M × D) → FO := bodyF 6 (T_check_mode c)
theorem ok_check_mode (Fa : Facts K mg c) : FnOk P w K mg base (L2.CX P w) 4 Fa.a_check_mode Fa.fd_check_mode ["signs", "modes", "name"] (spF K 3 (f_check_mode c)) := by
  refine fn_okF (N := N_check_mode) (T := T_check_mode c) Fa.F_check_mode sc_check_mode fun cdv A outer s H E hr => ?_
  have hu := Room.u64 hr
  unfold T_check_mode T_check_mode_4 T_check_mode_3 T_check_mode_2 T_check_mode_1
  exact (fss_cons (fs_set sc_check_mode.nd rfl (by first | exact Or.inl rfl | exact Or.inr rfl) (fe_ix hu (fe_name (pv 1)) (fe_name (pv 2))))
  (fss_cons (fs_if (FW.ft (fw_or (ft_not (ft_val (fe_call (ok_is_row Fa) (hr.mono (by decide)) rfl Fa.g_is_row Fa.F_is_row.kp Fa.b_is_row (takes_of rfl rfl rfl rfl) (fa_cons (fe_name (pv 3)) fa_nil) (len_cons len_nil)))) (fw_or (ft_cmpF (c_ne hu) (fe_callB b_len rfl Fa.n_len boot_len (fa_cons (fe_name (pv 3)) fa_nil)) fe_int) (fw_or (ft_not (ft_val (fe_call (ok_is_row Fa) (hr.mono (by decide)) rfl Fa.g_is_row Fa.F_is_row.kp Fa.b_is_row (takes_of rfl rfl rfl rfl) (fa_cons (fe_frzD (fe_ix hu (fe_name (pv 3)) fe_int)) fa_nil) (len_cons len_nil)))) (fw_or1 (ft_cmpF c_gt (fe_callB b_len rfl Fa.n_len boot_len (fa_cons (fe_ix hu (fe_name (pv 3)) fe_int) fa_nil)) (fe_gint Fa.g_MOST_ROWS rfl))))))) (fss_one (fs_raise rfl (takes_of rfl rfl rfl rfl) Fa.oex_BadBook Fa.ini_BadBook Fa.typ_BadBook (ok_BadBook___init__ Fa) (hr.mono (by decide)) Fa.b_BadBook___init__ rfl Fa.g_BadBook (fa_cons fe_str (fa_cons (fe_nameFD (pv 2)) (fa_cons fe_non fa_nil))))) fss_nil)
  (fss_cons (fs_for (passes_of rfl) rfl (fi_enum2 rfl Fa.n_enumerate (fe_frzD (fe_ix hu (fe_name (pv 3)) fe_int))) (fg_tup (n := 2) rfl (fgs_cons (fg_name (i := 4) sc_check_mode.nd rfl (by first | exact Or.inl rfl | exact Or.inr rfl)) (fgs_cons (fg_name (i := 5) sc_check_mode.nd rfl (by first | exact Or.inl rfl | exact Or.inr rfl)) fgs_nil))) (fss_cons (fs_if (FW.ft (fw_or (ft_not (ft_val (fe_call (ok_is_row Fa) (hr.mono (by decide)) rfl Fa.g_is_row Fa.F_is_row.kp Fa.b_is_row (takes_of rfl rfl rfl rfl) (fa_cons (fe_name (pv 5)) fa_nil) (len_cons len_nil)))) (fw_or (ft_cmpF (c_ne hu) (fe_callB b_len rfl Fa.n_len boot_len (fa_cons (fe_name (pv 5)) fa_nil)) fe_int) (fw_or (ft_not (ft_val (fe_call (ok_are_signs Fa) (hr.mono (by decide)) rfl Fa.g_are_signs Fa.F_are_signs.kp Fa.b_are_signs (takes_of rfl rfl rfl rfl) (fa_cons (fe_name (pv 0)) (fa_cons (fe_frzD (fe_ix hu (fe_name (pv 5)) fe_int)) fa_nil)) (len_cons (len_cons len_nil))))) (fw_or1 (ft_not (ft_val (fe_call (ok_is_name Fa) (hr.mono (by decide)) rfl Fa.g_is_name Fa.F_is_name.kp Fa.b_is_name (takes_of rfl rfl rfl rfl) (fa_cons (fe_frzD (fe_ix hu (fe_name (pv 5)) fe_int)) fa_nil) (len_cons len_nil))))))))) (fss_one (fs_raise rfl (takes_of rfl rfl rfl rfl) Fa.oex_BadBook Fa.ini_BadBook Fa.typ_BadBook (ok_BadBook___init__ Fa) (hr.mono (by decide)) Fa.b_BadBook___init__ rfl Fa.g_BadBook (fa_cons fe_str (fa_cons (fe_nameFD (pv 2)) (fa_cons (fe_nameFD (pv 4)) fa_nil))))) fss_nil)
  (fss_one (fs_if (FW.ft (fw_or (FW.ft (fw_and (ft_cmpF c_isnot (fe_ix hu (fe_name (pv 5)) fe_int) fe_non) (fw_and1 (ft_not (ft_val (fe_call (ok_are_nexts Fa) (hr.mono (by decide)) rfl Fa.g_are_nexts Fa.F_are_nexts.kp Fa.b_are_nexts (takes_of rfl rfl rfl rfl) (fa_cons (fe_name (pv 0)) (fa_cons (fe_frzD (fe_ix hu (fe_name (pv 5)) fe_int)) fa_nil)) (len_cons (len_cons len_nil)))))))) (fw_or1 (ft_not (ft_val (fe_call (ok_is_deed Fa) (hr.mono (by decide)) rfl Fa.g_is_deed Fa.F_is_deed.kp Fa.b_is_deed (takes_of rfl rfl rfl rfl) (fa_cons (fe_name (pv 1)) (fa_cons (fe_frzD (fe_ix hu (fe_name (pv 5)) fe_int)) fa_nil)) (len_cons (len_cons len_nil)))))))) (fss_one (fs_raise rfl (takes_of rfl rfl rfl rfl) Fa.oex_BadBook Fa.ini_BadBook Fa.typ_BadBook (ok_BadBook___init__ Fa) (hr.mono (by decide)) Fa.b_BadBook___init__ rfl Fa.g_BadBook (fa_cons fe_str (fa_cons (fe_nameFD (pv 2)) (fa_cons (fe_nameFD (pv 4)) fa_nil))))) fss_nil))))
  (fss_one (fs_if (FW.ft (fw_or (ft_not (ft_val (fe_call (ok_is_name Fa) (hr.mono (by decide)) rfl Fa.g_is_name Fa.F_is_name.kp Fa.b_is_name (takes_of rfl rfl rfl rfl) (fa_cons (fe_frzD (fe_ix hu (fe_name (pv 3)) fe_int)) fa_nil) (len_cons len_nil)))) (fw_or1 (ft_not (ft_val (fe_call (ok_is_deed Fa) (hr.mono (by decide)) rfl Fa.g_is_deed Fa.F_is_deed.kp Fa.b_is_deed (takes_of rfl rfl rfl rfl) (fa_cons (fe_name (pv 1)) (fa_cons (fe_frzD (fe_ix hu (fe_name (pv 3)) fe_int)) fa_nil)) (len_cons (len_cons len_nil)))))))) (fss_one (fs_raise rfl (takes_of rfl rfl rfl rfl) Fa.oex_BadBook Fa.ini_BadBook Fa.typ_BadBook (ok_BadBook___init__ Fa) (hr.mono (by decide)) Fa.b_BadBook___init__ rfl Fa.g_BadBook (fa_cons fe_str (fa_cons (fe_nameFD (pv 2)) (fa_cons fe_non fa_nil))))) fss_nil)))))

def N_kept : List Str := ["mode", "rows", "plain", "end", "told", "signs", "nexts", "colour", "deed"]
theorem sc_kept : FnScope N_kept ["mode"] (defScope s_kept) := ⟨rfl, rfl, rfl, by decide +kernel, rfl, by decide +kernel, by decide +kernel⟩
noncomputable def T_kept_1 (c : Cs) : List Sl → EO :=
  (lcE [5, 6, 7, 8] (anyI (nameFD 1)) (tupG 4 (consG (putG 5) (consG (putG 6) (consG (putG 7) (consG (putG 8) nilG))))) yesB (useA tupD (consA (frzD (useA tupC (consA (name 5) nilA))) (consA (ifE (isB (use2 (isD id) (name 6) (konst .non))) (konst .non) (frzD (useA tupC (consA (name 6) nilA)))) (consA (nameFD 7) (consA (frzD (useA tupC (consA (name 8) nilA))) nilA))))))
noncomputable def T_kept_2 (c : Cs) : List Sl → SO :=
  (seqS (setS 4 (T_kept_1 c))
  (retS (useA tupD (consA (frzD (useA tupC (consA (name 4) nilA))) (consA (nameFD 2) (consA (frzD (useA tupC (consA (name 3) nilA))) nilA))))))
noncomputable def T_kept_3 (c : Cs) : List Sl → SO :=
  (seqS (asgS (nameFD 0) (tupG 3 (consG (putG 1) (consG (putG 2) (consG (putG 3) nilG)))))
  (T_kept_2 c))
noncomputable def T_kept (c : Cs) : List Sl → SO :=
  (T_kept_3 c)
noncomputable def f_kept (c : Cs) : List (M × D) → FO := bodyF 9 (T_kept c)
theorem ok_kept (Fa : Facts K mg c) : FnOk P w K mg base (L2.CX P w) 1 Fa.a_kept Fa.fd_kept ["mode"] (spF K 1 (f_kept c)) := by
  refine fn_okF (N := N_kept) (T := T_kept c) Fa.F_kept sc_kept fun cdv A outer s H E hr => ?_
  have hu := Room.u64 hr
  unfold T_kept T_kept_3 T_kept_2 T_kept_1
  exact (fss_cons (fs_asg (fe_nameFD (pv 0)) (fg_tup (n := 3) rfl (fgs_cons (fg_name (i := 1) sc_kept.nd rfl (by first | exact Or.inl rfl | exact Or.inr rfl)) (fgs_cons (fg_name (i := 2) sc_kept.nd rfl (by first | exact Or.inl rfl | exact Or.inr rfl)) (fgs_cons (fg_name (i := 3) sc_kept.nd rfl (by first | exact Or.inl rfl | exact Or.inr rfl)) fgs_nil)))))
  (fss_cons (fs_setLc (own := [("signs", 5), ("nexts", 6), ("colour", 7), ("deed", 8)]) rfl sc_kept.nd rfl rfl (sw_true rfl rfl rfl (by decide +kernel)) (fi_any (fe_nameFD (pv 1))) (blkOk_by (by first | rfl | decide +kernel | with_unfolding_all rfl)) (fun _ _ _ _ _ => (fg_tup (n := 4) rfl (fgs_cons (fg_name (i := 5) sc_kept.nd rfl (by first | exact Or.inl rfl | exact Or.inr rfl)) (fgs_cons (fg_name (i := 6) sc_kept.nd rfl (by first | exact Or.inl rfl | exact Or.inr rfl)) (fgs_cons (fg_name (i := 7) sc_kept.nd rfl (by first | exact Or.inl rfl | exact Or.inr rfl)) (fgs_cons (fg_name (i := 8) sc_kept.nd rfl (by first | exact Or.inl rfl | exact Or.inr rfl)) fgs_nil)))))) (fun _ _ _ _ _ => fts_nil) (fun _ _ _ _ _ => (fe_tup (fa_cons (fe_frzD (fe_callTy b_tuple rfl Fa.n_tuple boot_tuple (fa_cons (fe_name (pv 5)) fa_nil))) (fa_cons (fe_if (ft_cmpF c_is (fe_name (pv 6)) fe_non) fe_non (fe_frzD (fe_callTy b_tuple rfl Fa.n_tuple boot_tuple (fa_cons (fe_name (pv 6)) fa_nil)))) (fa_cons (fe_nameFD (pv 7)) (fa_cons (fe_frzD (fe_callTy b_tuple rfl Fa.n_tuple boot_tuple (fa_cons (fe_name (pv 8)) fa_nil))) fa_nil)))))))
  (fss_one (fs_ret (fe_tup (fa_cons (fe_frzD (fe_callTy b_tuple rfl Fa.n_tuple boot_tuple (fa_cons (fe_name (pv 4)) fa_nil))) (fa_cons (fe_nameFD (pv 2)) (fa_cons (fe_frzD (fe_callTy b_tuple rfl Fa.n_tuple boot_tuple (fa_cons (fe_name (pv 3)) fa_nil))) fa_nil))))))))

def N_is_number : List Str := ["thing"]
theorem sc_is_number : FnScope N_is_number ["thing"] (defScope s_is_number) := ⟨rfl, rfl, rfl, by decide +kernel, rfl, by decide +kernel, by decide +kernel⟩
noncomputable def T_is_number (c : Cs) : List Sl → SO :=
  (retS (andE (use1 (isiO ["int"] (own_no c)) (name 0)) (andE (ofB (notB (isB (use1 (isiO ["bool"] (own_no c)) (name 0))))) (use2 geD (name 0) (konst (.int 0))))))
noncomputable def f_is_number (c : Cs) : List (M × D) → FO := bodyF 1 (T_is_number c)
theorem ok_is_number (Fa : Facts K mg c) : FnOk P w K mg base (L2.CX P w) 1 Fa.a_is_number Fa.fd_is_number ["thing"] (spF K 1 (f_is_number c)) := by
  refine fn_okF (N := N_is_number) (T := T_is_number c) Fa.F_is_number sc_is_number fun cdv A outer s H E hr => ?_
  have hu := Room.u64 hr
  unfold T_is_number
  exact (fss_one (fs_ret (fe_and (fe_isiT (nm := "int") rfl (by decide) (Fa.isi_no1 "int" (by decide)) rfl Fa.n_isinstance rfl Fa.n_int boot_int (fe_name (pv 0))) (fe_and (fe_not (fe_isiT (nm := "bool") rfl (by decide) (Fa.isi_no1 "bool" (by decide)) rfl Fa.n_isinstance rfl Fa.n_bool boot_bool (fe_name (pv 0)))) (fe_one (fe_cmp c_ge (fe_name (pv 0)) fe_int))))))

def N_Book___init__ : List Str := ["self", "signs", "modes", "first", "deep", "name", "sign"]
theorem sc_Book___init__ : FnScope N_Book___init__ ["self", "signs", "modes", "first", "deep"] (defScope s_Book___init__) := ⟨rfl, rfl, rfl, by decide +kernel, rfl, by decide +kernel, by decide +kernel⟩
noncomputable def T_Book___init___1 (c : Cs) : List Sl → EO :=
  (dcE [6] (anyI (nameFD 1)) (putG 6) yesB (nameFD 6) (konst (.bl true)))
noncomputable def T_Book___init___2 (c : Cs) : List Sl → EO :=
  (lcE [5] (anyI (nameFD 2)) (putG 5) yesB (frzD (callE (f_is_name c) (consA (name 5) nilA))))
noncomputable def T_Book___init___3 (c : Cs) : List Sl → SO :=
  (dropS (callE (f_check_mode c) (consA (name 1) (consA (name 2) (consA (name 5) nilA)))))
noncomputable def T_Book___init___4 (c : Cs) : List Sl → EO :=
  (dcE [5] (anyI (frzD (useA sortedD (consA (name 2) nilA)))) (putG 5) yesB (nameFD 5) (frzD (callE (f_kept c) (consA (frzD (use2 ixDD (name 2) (name 5))) nilA))))
noncomputable def T_Book___init___5 (c : Cs) : List Sl → SO :=
  (seqS (setFldS 0 (okF_first c) "first" (nameFD 3))
  (setFldS 0 (okF_deep c) "deep" (nameFD 4)))
noncomputable def T_Book___init___6 (c : Cs) : List Sl → SO :=
  (seqS (setFldS 0 (okF_modes c) "modes" (frzD (T_Book___init___4 c)))
  (T_Book___init___5 c))
noncomputable def T_Book___init___7 (c : Cs) : List Sl → SO :=
  (seqS (setFldS 0 (okF_signs c) "signs" (frzD (use1 (joinD "") (useA sortedD (consA (name 1) nilA)))))
  (T_Book___init___6 c))
noncomputable def T_Book___init___8 (c : Cs) : List Sl → SO :=
  (seqS (ifS (orB (notB (tru (use1 (isiO ["str"] (own_no c)) (name 3)))) (isB (use2 notInDD (name 3) (name 2)))) (raiseS c.BadBook fns_BadBook (consA (konst (.str "first")) (consA (konst .non) (consA (konst .non) nilA)))) nextS)
  (T_Book___init___7 c))
noncomputable def T_Book___init___9 (c : Cs) : List Sl → SO :=
  (seqS (forS (anyI (frzD (useA sortedD (consA (name 2) nilA)))) (putG 5) (T_Book___init___3 c))
  (T_Book___init___8 c))
noncomputable def T_Book___init___10 (c : Cs) : List Sl → SO :=
  (seqS (ifS (orB (notB (tru (callE (f_is_number c) (consA (name 4) nilA)))) (notB (isB (chainE leD leD (konst (.int 1)) (name 4) (konst (.int 4)))))) (raiseS c.BadBook fns_BadBook (consA (konst (.str "deep")) (consA (konst .non) (consA (konst .non) nilA)))) nextS)
  (T_Book___init___9 c))
noncomputable def T_Book___init___11 (c : Cs) : List Sl → SO :=
  (seqS (ifS (notB (tru (useA allD (consA (T_Book___init___2 c) nilA)))) (raiseS c.BadBook fns_BadBook (consA (konst (.str "modes")) (consA (konst .non) (consA (konst .non) nilA)))) nextS)
  (T_Book___init___10 c))
noncomputable def T_Book___init___12 (c : Cs) : List Sl → SO :=
  (seqS (ifS (orB (notB (tru (use1 (isiO ["dict"] (own_no c)) (name 2)))) (notB (isB (chainE leD leD (konst (.int 1)) (useA lenD (consA (name 2) nilA)) (konst (.int 4)))))) (raiseS c.BadBook fns_BadBook (consA (konst (.str "modes")) (consA (konst .non) (consA (konst .non) nilA)))) nextS)
  (T_Book___init___11 c))
noncomputable def T_Book___init___13 (c : Cs) : List Sl → SO :=
  (seqS (ifS (isB (use2 ltD (useA lenD (consA (T_Book___init___1 c) nilA)) (useA lenD (consA (name 1) nilA)))) (raiseS c.BadBook fns_BadBook (consA (konst (.str "signs")) (consA (konst .non) (consA (konst .non) nilA)))) nextS)
  (T_Book___init___12 c))
noncomputable def T_Book___init___14 (c : Cs) : List Sl → SO :=
  (seqS (ifS (orB (notB (tru (use1 (isiO ["str"] (own_no c)) (name 1)))) (orB (notB (isB (chainE leD leD (konst (.int 1)) (useA lenD (consA (name 1) nilA)) (konst (.int 6))))) (isB (use2 inDD (konst (.str "\n")) (name 1))))) (raiseS c.BadBook fns_BadBook (consA (konst (.str "signs")) (consA (konst .non) (consA (konst .non) nilA)))) nextS)
  (T_Book___init___13 c))
noncomputable def T_Book___init__ (c : Cs) : List Sl → SO :=
  (T_Book___init___14 c)
noncomputable def f_Book___init__ (c : Cs) : List (M × D) → FO := bodyF 7 (T_Book___init__ c)
theorem ok_Book___init__ (Fa : Facts K mg c) : FnOk P w K mg base (L2.CX P w) 5 Fa.a_Book___init__ Fa.fd_Book___init__ ["self", "signs", "modes", "first", "deep"] (spF K 5 (f_Book___init__ c)) := by
  refine fn_okF (N := N_Book___init__) (T := T_Book___init__ c) Fa.F_Book___init__ sc_Book___init__ fun cdv A outer s H E hr => ?_
  have hu := Room.u64 hr
  unfold T_Book___init__ T_Book___init___14 T_Book___init___13 T_Book___init___12 T_Book___init___11 T_Book___init___10 T_Book___init___9 T_Book___init___8 T_Book___init___7 T_Book___init___6 T_Book___init___5 T_Book___init___4 T_Book___init___3 T_Book___init___2 T_Book___init___1
  exact (fss_cons (fs_if (FW.ft (fw_or (ft_not (ft_val (fe_isiT (nm := "str") rfl (by decide) (Fa.isi_no1 "str" (by decide)) rfl Fa.n_isinstance rfl Fa.n_str boot_str (fe_name (pv 1))))) (fw_or (ft_not (ft_chain c_le c_le fe_int (fe_callB b_len rfl Fa.n_len boot_len (fa_cons (fe_name (pv 1)) fa_nil)) (fe_gint Fa.g_MOST_SIGNS rfl))) (fw_or1 (ft_cmpF (c_in hu) fe_str (fe_name (pv 1))))))) (fss_one (fs_raise rfl (takes_of rfl rfl rfl rfl) Fa.oex_BadBook Fa.ini_BadBook Fa.typ_BadBook (ok_BadBook___init__ Fa) (hr.mono (by decide)) Fa.b_BadBook___init__ rfl Fa.g_BadBook (fa_cons fe_str (fa_cons fe_non (fa_cons fe_non fa_nil))))) fss_nil)
  (fss_cons (fs_if (ft_cmpF c_lt (fe_callB b_len rfl Fa.n_len boot_len (fa_cons (fe_dc (own := [("sign", 6)]) rfl sc_Book___init__.nd (fi_any (fe_nameFD (pv 1))) (blkOk_by (by first | rfl | decide +kernel | with_unfolding_all rfl)) (fun _ _ _ _ _ => (fg_name (i := 6) sc_Book___init__.nd rfl (by first | exact Or.inl rfl | exact Or.inr rfl))) (fun _ _ _ _ _ => fts_nil) (fun _ _ _ _ _ => (fe_nameFD (pv 6))) (fun _ _ _ _ _ => fe_bl)) fa_nil)) (fe_callB b_len rfl Fa.n_len boot_len (fa_cons (fe_name (pv 1)) fa_nil))) (fss_one (fs_raise rfl (takes_of rfl rfl rfl rfl) Fa.oex_BadBook Fa.ini_BadBook Fa.typ_BadBook (ok_BadBook___init__ Fa) (hr.mono (by decide)) Fa.b_BadBook___init__ rfl Fa.g_BadBook (fa_cons fe_str (fa_cons fe_non (fa_cons fe_non fa_nil))))) fss_nil)
  (fss_cons (fs_if (FW.ft (fw_or (ft_not (ft_val (fe_isiT (nm := "dict") rfl (by decide) (Fa.isi_no1 "dict" (by decide)) rfl Fa.n_isinstance rfl Fa.n_dict boot_dict (fe_name (pv 2))))) (fw_or1 (ft_not (ft_chain c_le c_le fe_int (fe_callB b_len rfl Fa.n_len boot_len (fa_cons (fe_name (pv 2)) fa_nil)) (fe_gint Fa.g_MOST_MODES rfl)))))) (fss_one (fs_raise rfl (takes_of rfl rfl rfl rfl) Fa.oex_BadBook Fa.ini_BadBook Fa.typ_BadBook (ok_BadBook___init__ Fa) (hr.mono (by decide)) Fa.b_BadBook___init__ rfl Fa.g_BadBook (fa_cons fe_str (fa_cons fe_non (fa_cons fe_non fa_nil))))) fss_nil)
  (fss_cons (fs_if (ft_not (ft_val (fe_callB (b_all rfl) rfl Fa.n_all boot_all (fa_cons (fe_lc (own := [("name", 5)]) rfl sc_Book___init__.nd (fi_any (fe_nameFD (pv 2))) (blkOk_by (by first | rfl | decide +kernel | with_unfolding_all rfl)) (fun _ _ _ _ _ => (fg_name (i := 5) sc_Book___init__.nd rfl (by first | exact Or.inl rfl | exact Or.inr rfl))) (fun _ _ _ _ _ => fts_nil) (fun _ _ _ _ _ => (fe_frzD (fe_call (ok_is_name Fa) (hr.mono (by decide)) rfl Fa.g_is_name Fa.F_is_name.kp Fa.b_is_name takes0 (fa_cons (fe_name (pv 5)) fa_nil) (len_cons len_nil))))) fa_nil)))) (fss_one (fs_raise rfl (takes_of rfl rfl rfl rfl) Fa.oex_BadBook Fa.ini_BadBook Fa.typ_BadBook (ok_BadBook___init__ Fa) (hr.mono (by decide)) Fa.b_BadBook___init__ rfl Fa.g_BadBook (fa_cons fe_str (fa_cons fe_non (fa_cons fe_non fa_nil))))) fss_nil)
  (fss_cons (fs_if (FW.ft (fw_or (ft_not (ft_val (fe_call (ok_is_number Fa) (hr.mono (by decide)) rfl Fa.g_is_number Fa.F_is_number.kp Fa.b_is_number (takes_of rfl rfl rfl rfl) (fa_cons (fe_name (pv 4)) fa_nil) (len_cons len_nil)))) (fw_or1 (ft_not (ft_chain c_le c_le fe_int (fe_name (pv 4)) (fe_gint Fa.g_MOST_DEEP rfl)))))) (fss_one (fs_raise rfl (takes_of rfl rfl rfl rfl) Fa.oex_BadBook Fa.ini_BadBook Fa.typ_BadBook (ok_BadBook___init__ Fa) (hr.mono (by decide)) Fa.b_BadBook___init__ rfl Fa.g_BadBook (fa_cons fe_str (fa_cons fe_non (fa_cons fe_non fa_nil))))) fss_nil)
  (fss_cons (fs_for (passes_of rfl) rfl (fi_any (fe_frzD (fe_callB (b_sorted rfl) rfl Fa.n_sorted boot_sorted (fa_cons (fe_name (pv 2)) fa_nil)))) (fg_name (i := 5) sc_Book___init__.nd rfl (by first | exact Or.inl rfl | exact Or.inr rfl)) (fss_one (fs_expr (fe_call (ok_check_mode Fa) (hr.mono (by decide)) rfl Fa.g_check_mode Fa.F_check_mode.kp Fa.b_check_mode (takes_of rfl rfl rfl rfl) (fa_cons (fe_name (pv 1)) (fa_cons (fe_name (pv 2)) (fa_cons (fe_name (pv 5)) fa_nil))) (len_cons (len_cons (len_cons len_nil)))))))
  (fss_cons (fs_if (FW.ft (fw_or (ft_not (ft_val (fe_isiT (nm := "str") rfl (by decide) (Fa.isi_no1 "str" (by decide)) rfl Fa.n_isinstance rfl Fa.n_str boot_str (fe_name (pv 3))))) (fw_or1 (ft_cmpF (c_notIn hu) (fe_name (pv 3)) (fe_name (pv 2)))))) (fss_one (fs_raise rfl (takes_of rfl rfl rfl rfl) Fa.oex_BadBook Fa.ini_BadBook Fa.typ_BadBook (ok_BadBook___init__ Fa) (hr.mono (by decide)) Fa.b_BadBook___init__ rfl Fa.g_BadBook (fa_cons fe_str (fa_cons fe_non (fa_cons fe_non fa_nil))))) fss_nil)
  (fss_cons (fs_setFld Fa.fld_signs (pv 0) (fe_frzD (fe_join pe_str (fe_callB (b_sorted rfl) rfl Fa.n_sorted boot_sorted (fa_cons (fe_name (pv 1)) fa_nil)))))
  (fss_cons (fs_setFld Fa.fld_modes (pv 0) (fe_frzD (fe_dc (own := [("name", 5)]) rfl sc_Book___init__.nd (fi_any (fe_frzD (fe_callB (b_sorted rfl) rfl Fa.n_sorted boot_sorted (fa_cons (fe_name (pv 2)) fa_nil)))) (blkOk_by (by first | rfl | decide +kernel | with_unfolding_all rfl)) (fun _ _ _ _ _ => (fg_name (i := 5) sc_Book___init__.nd rfl (by first | exact Or.inl rfl | exact Or.inr rfl))) (fun _ _ _ _ _ => fts_nil) (fun _ _ _ _ _ => (fe_nameFD (pv 5))) (fun _ _ _ _ _ => (fe_frzD (fe_call (ok_kept Fa) (hr.mono (by decide)) rfl Fa.g_kept Fa.F_kept.kp Fa.b_kept takes0 (fa_cons (fe_frzD (fe_ix hu (fe_name (pv 2)) (fe_name (pv 5)))) fa_nil) (len_cons len_nil)))))))
  (fss_cons (fs_setFld Fa.fld_first (pv 0) (fe_nameFD (pv 3)))
  (fss_one (fs_setFld Fa.fld_deep (pv 0) (fe_nameFD (pv 4))))))))))))))

def N__law_book : List Str := ["told"]
theorem sc__law_book : FnScope N__law_book ["told"] (defScope s__law_book) := ⟨rfl, rfl, rfl, by decide +kernel, rfl, by decide +kernel, by decide +kernel⟩
noncomputable def T__law_book (c : Cs) : List Sl → SO :=
  (retS (frzD (makeE c.Book (f_Book___init__ c) (consA (frzD (use2 ixDD (name 0) (konst (.str "signs")))) (consA (frzD (use2 ixDD (name 0) (konst (.str "modes")))) (consA (frzD (use2 ixDD (name 0) (konst (.str "first")))) (consA (frzD (use2 ixDD (name 0) (konst (.str "deep")))) nilA)))))))
noncomputable def f__law_book (c : Cs) : List (M × D) → FO := bodyF 1 (T__law_book c)
theorem ok__law_book (Fa : Facts K mg c) : FnOk P w K mg base (L2.CX P w) 7 Fa.a__law_book Fa.fd__law_book ["told"] (spF K 1 (f__law_book c)) := by
  refine fn_okF (N := N__law_book) (T := T__law_book c) Fa.F__law_book sc__law_book fun cdv A outer s H E hr => ?_
  have hu := Room.u64 hr
  unfold T__law_book
  exact (fss_one (fs_ret (fe_frzD (fe_make Fa.mk_Book (ok_Book___init__ Fa) (hr.mono (by decide)) rfl Fa.g_Book Fa.b_Book___init__ (takes_of rfl rfl rfl rfl) (fa_cons (fe_frzD (fe_ix hu (fe_name (pv 0)) fe_str)) (fa_cons (fe_frzD (fe_ix hu (fe_name (pv 0)) fe_str)) (fa_cons (fe_frzD (fe_ix hu (fe_name (pv 0)) fe_str)) (fa_cons (fe_frzD (fe_ix hu (fe_name (pv 0)) fe_str)) fa_nil)))) (len_cons (len_cons (len_cons (len_cons len_nil))))))))

def N__law_signs : List Str := ["draw", "signs", "most", "found", "turn"]
theorem sc__law_signs : FnScope N__law_signs ["draw", "signs", "most"] (defScope s__law_signs) := ⟨rfl, rfl, rfl, by decide +kernel, rfl, by decide +kernel, by decide +kernel⟩
noncomputable def T__law_signs_1 (c : Cs) : List Sl → SO :=
  (setS 3 (use2 addD (name 3) (callE (f__law_pick c) (consA (name 0) (consA (frzD (useA lstC (consA (name 1) nilA))) nilA)))))
noncomputable def T__law_signs_2 (c : Cs) : List Sl → SO :=
  (seqS (forS (rangeI (consA (callE (f__law_take c) (consA (name 0) (consA (name 2) nilA))) nilA)) (putG 4) (T__law_signs_1 c))
  (retS (nameFD 3)))
noncomputable def T__law_signs_3 (c : Cs) : List Sl → SO :=
  (seqS (setS 3 (konst (.str "")))
  (T__law_signs_2 c))
noncomputable def T__law_signs (c : Cs) : List Sl → SO :=
  (T__law_signs_3 c)
noncomputable def f__law_signs (c : Cs) : List (M × D) → FO := bodyF 5 (T__law_signs c)
theorem ok__law_signs (Fa : Facts K mg c) : FnOk P w K mg base (L2.CX P w) 4 Fa.a__law_signs Fa.fd__law_signs ["draw", "signs", "most"] (spF K 3 (f__law_signs c)) := by
  refine fn_okF (N := N__law_signs) (T := T__law_signs c) Fa.F__law_signs sc__law_signs fun cdv A outer s H E hr => ?_
  have hu := Room.u64 hr
  unfold T__law_signs T__law_signs_3 T__law_signs_2 T__law_signs_1
  exact (fss_cons (fs_set sc__law_signs.nd rfl (by first | exact Or.inl rfl | exact Or.inr rfl) fe_str)
  (fss_cons (fs_for (passes_of rfl) rfl (fi_range1 rfl Fa.n_range (fa_cons (fe_call (ok__law_take Fa) (hr.mono (by decide)) rfl Fa.g__law_take Fa.F__law_take.kp Fa.b__law_take (takes_of rfl rfl rfl rfl) (fa_cons (fe_name (pv 0)) (fa_cons (fe_name (pv 2)) fa_nil)) (len_cons (len_cons len_nil))) fa_nil)) (fg_name (i := 4) sc__law_signs.nd rfl (by first | exact Or.inl rfl | exact Or.inr rfl)) (fss_one (fs_set sc__law_signs.nd rfl (by first | exact Or.inl rfl | exact Or.inr rfl) (fe_add (fe_name (pv 3)) (fe_call (ok__law_pick Fa) (hr.mono (by decide)) rfl Fa.g__law_pick Fa.F__law_pick.kp Fa.b__law_pick (takes_of rfl rfl rfl rfl) (fa_cons (fe_name (pv 0)) (fa_cons (fe_frzD (fe_callTy (b_list rfl) rfl Fa.n_list boot_list (fa_cons (fe_name (pv 1)) fa_nil))) fa_nil)) (len_cons (len_cons len_nil)))))))
  (fss_one (fs_ret (fe_nameFD (pv 3))))))

def N__law_lines : List Str := ["draw", "signs", "many", "most", "turn"]
theorem sc__law_lines : FnScope N__law_lines ["draw", "signs", "many", "most"] (defScope s__law_lines) := ⟨rfl, rfl, rfl, by decide +kernel, rfl, by decide +kernel, by decide +kernel⟩
noncomputable def T__law_lines_1 (c : Cs) : List Sl → EO :=
  (lcE [4] (rangeI (consA (callE (f__law_take c) (consA (name 0) (consA (name 2) nilA))) nilA)) (putG 4) yesB (frzD (callE (f__law_signs c) (consA (name 0) (consA (name 1) (consA (name 3) nilA))))))
noncomputable def T__law_lines (c : Cs) : List Sl → SO :=
  (retS (frzD (T__law_lines_1 c)))
noncomputable def f__law_lines (c : Cs) : List (M × D) → FO := bodyF 5 (T__law_lines c)
theorem ok__law_lines (Fa : Facts K mg c) : FnOk P w K mg base (L2.CX P w) 5 Fa.a__law_lines Fa.fd__law_lines ["draw", "signs", "many", "most"] (spF K 4 (f__law_lines c)) := by
  refine fn_okF (N := N__law_lines) (T := T__law_lines c) Fa.F__law_lines sc__law_lines fun cdv A outer s H E hr => ?_
  have hu := Room.u64 hr
  unfold T__law_lines T__law_lines_1
  exact (fss_one (fs_ret (fe_frzD (fe_lc (own := [("turn", 4)]) rfl sc__law_lines.nd (fi_range1 rfl Fa.n_range (fa_cons (fe_call (ok__law_take Fa) (hr.mono (by decide)) rfl Fa.g__law_take Fa.F__law_take.kp Fa.b__law_take (takes_of rfl rfl rfl rfl) (fa_cons (fe_name (pv 0)) (fa_cons (fe_name (pv 2)) fa_nil)) (len_cons (len_cons len_nil))) fa_nil)) (blkOk_by (by first | rfl | decide +kernel | with_unfolding_all rfl)) (fun _ _ _ _ _ => (fg_name (i := 4) sc__law_lines.nd rfl (by first | exact Or.inl rfl | exact Or.inr rfl))) (fun _ _ _ _ _ => fts_nil) (fun _ _ _ _ _ => (fe_frzD (fe_call (ok__law_signs Fa) (hr.mono (by decide)) rfl Fa.g__law_signs Fa.F__law_signs.kp Fa.b__law_signs takes0 (fa_cons (fe_name (pv 0)) (fa_cons (fe_name (pv 1)) (fa_cons (fe_name (pv 3)) fa_nil))) (len_cons (len_cons (len_cons len_nil))))))))))

def N_spans : List Str := ["colours", "found", "at", "colour"]
theorem sc_spans : FnScope N_spans ["colours"] (defScope s_spans) := ⟨rfl, rfl, rfl, by decide +kernel, rfl, by decide +kernel, by decide +kernel⟩
noncomputable def T_spans_1 (c : Cs) : List Sl → SO :=
  (ifS (andB (isB (use2 neDD (name 1) (useA lstD nilA))) (isB (use2 eqDD (use2 ixDD (use2 ixDD (name 1) (use1 negD (konst (.int 1)))) (konst (.int 2))) (name 3)))) (setIxS 1 (use1 negD (konst (.int 1))) (useA tupD (consA (frzD (use2 ixDD (use2 ixDD (name 1) (use1 negD (konst (.int 1)))) (konst (.int 0)))) (consA (nameFD 2) (consA (nameFD 3) nilA))))) (dropS (appE 1 (useA tupD (consA (nameFD 2) (consA (nameFD 2) (consA (nameFD 3) nilA)))))))
noncomputable def T_spans_2 (c : Cs) : List Sl → SO :=
  (seqS (forS (enumI2 (nameFD 0)) (tupG 2 (consG (putG 2) (consG (putG 3) nilG))) (T_spans_1 c))
  (retS (nameFD 1)))
noncomputable def T_spans_3 (c : Cs) : List Sl → SO :=
  (seqS (setS 1 (useA lstD nilA))
  (T_spans_2 c))
noncomputable def T_spans (c : Cs) : List Sl → SO :=
  (T_spans_3 c)
noncomputable def f_spans (c : Cs) : List (M × D) → FO := bodyF 4 (T_spans c)
theorem ok_spans (Fa : Facts K mg c) : FnOk P w K mg base (L2.CX P w) 1 Fa.a_spans Fa.fd_spans ["colours"] (spF K 1 (f_spans c)) := by
  refine fn_okF (N := N_spans) (T := T_spans c) Fa.F_spans sc_spans fun cdv A outer s H E hr => ?_
  have hu := Room.u64 hr
  unfold T_spans T_spans_3 T_spans_2 T_spans_1
  exact (fss_cons (fs_set sc_spans.nd rfl (by first | exact Or.inl rfl | exact Or.inr rfl) (fe_lst fa_nil))
  (fss_cons (fs_for (passes_of rfl) rfl (fi_enum2 rfl Fa.n_enumerate (fe_nameFD (pv 0))) (fg_tup (n := 2) rfl (fgs_cons (fg_name (i := 2) sc_spans.nd rfl (by first | exact Or.inl rfl | exact Or.inr rfl)) (fgs_cons (fg_name (i := 3) sc_spans.nd rfl (by first | exact Or.inl rfl | exact Or.inr rfl)) fgs_nil))) (fss_one (fs_if (FW.ft (fw_and (ft_cmpF (c_ne hu) (fe_name (pv 1)) (fe_lst fa_nil)) (fw_and1 (ft_cmpF (c_eq hu) (fe_ix hu (fe_ix hu (fe_name (pv 1)) (fe_negD fe_int)) fe_int) (fe_name (pv 3)))))) (fss_one (fs_setIx hu (pv 1) (fe_negD fe_int) (fe_tup (fa_cons (fe_frzD (fe_ix hu (fe_ix hu (fe_name (pv 1)) (fe_negD fe_int)) fe_int)) (fa_cons (fe_nameFD (pv 2)) (fa_cons (fe_nameFD (pv 3)) fa_nil)))))) (fss_one (fs_expr (fe_append (pv 1) (fe_tup (fa_cons (fe_nameFD (pv 2)) (fa_cons (fe_nameFD (pv 2)) (fa_cons (fe_nameFD (pv 3)) fa_nil))))))))))
  (fss_one (fs_ret (fe_nameFD (pv 1))))))

def N_check_book : List Str := ["book"]
theorem sc_check_book : FnScope N_check_book ["book"] (defScope s_check_book) := ⟨rfl, rfl, rfl, by decide +kernel, rfl, by decide +kernel, by decide +kernel⟩
noncomputable def T_check_book (c : Cs) : List Sl → SO :=
  (ifS (notB (tru (use1 (isiC (own_Book c)) (name 0)))) (raiseS c.BadBook fns_BadBook (consA (konst (.str "book")) (consA (konst .non) (consA (konst .non) nilA)))) nextS)
noncomputable def f_check_book (c : Cs) : List (M × D) → FO := bodyF 1 (T_check_book c)
theorem ok_check_book (Fa : Facts K mg c) : FnOk P w K mg base (L2.CX P w) 3 Fa.a_check_book Fa.fd_check_book ["book"] (spF K 1 (f_check_book c)) := by
  refine fn_okF (N := N_check_book) (T := T_check_book c) Fa.F_check_book sc_check_book fun cdv A outer s H E hr => ?_
  have hu := Room.u64 hr
  unfold T_check_book
  exact (fss_one (fs_if (ft_not (ft_val (fe_isiC Fa.isiB_Book Fa.isi_Book rfl Fa.n_isinstance rfl Fa.g_Book (fe_name (pv 0))))) (fss_one (fs_raise rfl (takes_of rfl rfl rfl rfl) Fa.oex_BadBook Fa.ini_BadBook Fa.typ_BadBook (ok_BadBook___init__ Fa) (hr.mono (by decide)) Fa.b_BadBook___init__ rfl Fa.g_BadBook (fa_cons fe_str (fa_cons fe_non (fa_cons fe_non fa_nil))))) fss_nil))

def N_BadText___init__ : List Str := ["self", "number"]
theorem sc_BadText___init__ : FnScope N_BadText___init__ ["self", "number"] (defScope s_BadText___init__) := ⟨rfl, rfl, rfl, by decide +kernel, rfl, by decide +kernel, by decide +kernel⟩
def fns_BadText : List Str := ["number"]
theorem ok_BadText___init__ (Fa : Facts K mg c) : FnOk P w K mg base (L2.CX P w) 1 Fa.a_BadText___init__ Fa.fd_BadText___init__ ["self", "number"] (spX c.BadText fns_BadText) := by
  refine fn_initX (N := N_BadText___init__) (l := [("number", 1)]) Fa.oex_BadText Fa.F_BadText___init__ sc_BadText___init__ (by simp) (by decide) rfl (by decide) (fun j p h => ?_) (fun p hp => ?_) fun cdv A outer s H E hr => ?_
  · match j, h with
    | 0, h => cases h; rfl
  · simp only [List.mem_cons, List.not_mem_nil, or_false] at hp
    rcases hp with rfl
    · exact Fa.no_BadText_number
  · exact (pss_cons (ps_ost (pv 0) (pv 1)) pss_nil)

def N_is_line : List Str := ["book", "line", "sign"]
theorem sc_is_line : FnScope N_is_line ["book", "line"] (defScope s_is_line) := ⟨rfl, rfl, rfl, by decide +kernel, rfl, by decide +kernel, by decide +kernel⟩
noncomputable def T_is_line_1 (c : Cs) : List Sl → EO :=
  (lcE [2] (anyI (nameFD 1)) (putG 2) yesB (use2 inDD (name 2) (use1 (fldO (okF_signs c) "signs") (name 0))))
noncomputable def T_is_line (c : Cs) : List Sl → SO :=
  (retS (andE (use1 (isiO ["str"] (own_no c)) (name 1)) (andE (use2 leD (useA lenD (consA (name 1) nilA)) (konst (.int 80))) (useA allD (consA (T_is_line_1 c) nilA)))))
noncomputable def f_is_line (c : Cs) : List (M × D) → FO := bodyF 3 (T_is_line c)
theorem ok_is_line (Fa : Facts K mg c) : FnOk P w K mg base (L2.CX P w) 1 Fa.a_is_line Fa.fd_is_line ["book", "line"] (spF K 2 (f_is_line c)) := by
  refine fn_okF (N := N_is_line) (T := T_is_line c) Fa.F_is_line sc_is_line fun cdv A outer s H E hr => ?_
  have hu := Room.u64 hr
  unfold T_is_line T_is_line_1
  exact (fss_one (fs_ret (fe_and (fe_isiT (nm := "str") rfl (by decide) (Fa.isi_no1 "str" (by decide)) rfl Fa.n_isinstance rfl Fa.n_str boot_str (fe_name (pv 1))) (fe_and (fe_cmp c_le (fe_callB b_len rfl Fa.n_len boot_len (fa_cons (fe_name (pv 1)) fa_nil)) (fe_gint Fa.g_MOST_LONG rfl)) (fe_one (fe_callB (b_all rfl) rfl Fa.n_all boot_all (fa_cons (fe_lc (own := [("sign", 2)]) rfl sc_is_line.nd (fi_any (fe_nameFD (pv 1))) (blkOk_by (by first | rfl | decide +kernel | with_unfolding_all rfl)) (fun _ _ _ _ _ => (fg_name (i := 2) sc_is_line.nd rfl (by first | exact Or.inl rfl | exact Or.inr rfl))) (fun _ _ _ _ _ => fts_nil) (fun _ _ _ _ _ => (fe_cmp (c_in hu) (fe_name (pv 2)) (fe_fld (Fa.fld_signs) (fe_name (pv 0)))))) fa_nil)))))))

def N_check_lines : List Str := ["book", "lines", "number", "line"]
theorem sc_check_lines : FnScope N_check_lines ["book", "lines"] (defScope s_check_lines) := ⟨rfl, rfl, rfl, by decide +kernel, rfl, by decide +kernel, by decide +kernel⟩
noncomputable def T_check_lines_1 (c : Cs) : List Sl → SO :=
  (ifS (notB (tru (callE (f_is_line c) (consA (name 0) (consA (name 3) nilA))))) (raiseS c.BadText fns_BadText (consA (nameFD 2) nilA)) nextS)
noncomputable def T_check_lines_2 (c : Cs) : List Sl → SO :=
  (seqS (ifS (orB (notB (tru (callE (f_is_row c) (consA (name 1) nilA)))) (isB (use2 gtD (useA lenD (consA (name 1) nilA)) (konst (.int 64))))) (raiseS c.BadText fns_BadText (consA (konst .non) nilA)) nextS)
  (forS (enumI2 (nameFD 1)) (tupG 2 (consG (putG 2) (consG (putG 3) nilG))) (T_check_lines_1 c)))
noncomputable def T_check_lines (c : Cs) : List Sl → SO :=
  (T_check_lines_2 c)
noncomputable def f_check_lines (c : Cs) : List (M × D) → FO := bodyF 4 (T_check_lines c)
theorem ok_check_lines (Fa : Facts K mg c) : FnOk P w K mg base (L2.CX P w) 3 Fa.a_check_lines Fa.fd_check_lines ["book", "lines"] (spF K 2 (f_check_lines c)) := by
  refine fn_okF (N := N_check_lines) (T := T_check_lines c) Fa.F_check_lines sc_check_lines fun cdv A outer s H E hr => ?_
  have hu := Room.u64 hr
  unfold T_check_lines T_check_lines_2 T_check_lines_1
  exact (fss_cons (fs_if (FW.ft (fw_or (ft_not (ft_val (fe_call (ok_is_row Fa) (hr.mono (by decide)) rfl Fa.g_is_row Fa.F_is_row.kp Fa.b_is_row (takes_of rfl rfl rfl rfl) (fa_cons (fe_name (pv 1)) fa_nil) (len_cons len_nil)))) (fw_or1 (ft_cmpF c_gt (fe_callB b_len rfl Fa.n_len boot_len (fa_cons (fe_name (pv 1)) fa_nil)) (fe_gint Fa.g_MOST_LINES rfl))))) (fss_one (fs_raise rfl (takes_of rfl rfl rfl rfl) Fa.oex_BadText Fa.ini_BadText Fa.typ_BadText (ok_BadText___init__ Fa) (hr.mono (by decide)) Fa.b_BadText___init__ rfl Fa.g_BadText (fa_cons fe_non fa_nil))) fss_nil)
  (fss_one (fs_for (passes_of rfl) rfl (fi_enum2 rfl Fa.n_enumerate (fe_nameFD (pv 1))) (fg_tup (n := 2) rfl (fgs_cons (fg_name (i := 2) sc_check_lines.nd rfl (by first | exact Or.inl rfl | exact Or.inr rfl)) (fgs_cons (fg_name (i := 3) sc_check_lines.nd rfl (by first | exact Or.inl rfl | exact Or.inr rfl)) fgs_nil))) (fss_one (fs_if (ft_not (ft_val (fe_call (ok_is_line Fa) (hr.mono (by decide)) rfl Fa.g_is_line Fa.F_is_line.kp Fa.b_is_line (takes_of rfl rfl rfl rfl) (fa_cons (fe_name (pv 0)) (fa_cons (fe_name (pv 3)) fa_nil)) (len_cons (len_cons len_nil))))) (fss_one (fs_raise rfl (takes_of rfl rfl rfl rfl) Fa.oex_BadText Fa.ini_BadText Fa.typ_BadText (ok_BadText___init__ Fa) (hr.mono (by decide)) Fa.b_BadText___init__ rfl Fa.g_BadText (fa_cons (fe_nameFD (pv 2)) fa_nil))) fss_nil)))))

def N_Book_row : List Str := ["self", "mode", "sign", "late", "rows", "plain", "end", "signs", "nexts", "colour", "deed"]
theorem sc_Book_row : FnScope N_Book_row ["self", "mode", "sign", "late"] (defScope s_Book_row) := ⟨rfl, rfl, rfl, by decide +kernel, rfl, by decide +kernel, by decide +kernel⟩
noncomputable def T_Book_row_1 (c : Cs) : List Sl → SO :=
  (ifS (andB (isB (use2 inDD (name 2) (name 7))) (orB (isB (use2 (isD id) (name 8) (konst .non))) (isB (use2 inDD (name 3) (name 8))))) (retS (useA tupD (consA (nameFD 9) (consA (nameFD 10) nilA)))) nextS)
noncomputable def T_Book_row_2 (c : Cs) : List Sl → SO :=
  (seqS (forS (anyI (nameFD 4)) (tupG 4 (consG (putG 7) (consG (putG 8) (consG (putG 9) (consG (putG 10) nilG))))) (T_Book_row_1 c))
  (retS (useA tupD (consA (nameFD 5) (consA (useA tupD (consA (konst (.str "stay")) nilA)) nilA)))))
noncomputable def T_Book_row_3 (c : Cs) : List Sl → SO :=
  (seqS (asgS (frzD (use2 ixDD (use1 (fldO (okF_modes c) "modes") (name 0)) (name 1))) (tupG 3 (consG (putG 4) (consG (putG 5) (consG (putG 6) nilG)))))
  (T_Book_row_2 c))
noncomputable def T_Book_row (c : Cs) : List Sl → SO :=
  (T_Book_row_3 c)
noncomputable def f_Book_row (c : Cs) : List (M × D) → FO := bodyF 11 (T_Book_row c)
theorem ok_Book_row (Fa : Facts K mg c) : FnOk P w K mg base (L2.CX P w) 1 Fa.a_Book_row Fa.fd_Book_row ["self", "mode", "sign", "late"] (spF K 4 (f_Book_row c)) := by
  refine fn_okF (N := N_Book_row) (T := T_Book_row c) Fa.F_Book_row sc_Book_row fun cdv A outer s H E hr => ?_
  have hu := Room.u64 hr
  unfold T_Book_row T_Book_row_3 T_Book_row_2 T_Book_row_1
  exact (fss_cons (fs_asg (fe_frzD (fe_ix hu (fe_fld (Fa.fld_modes) (fe_name (pv 0))) (fe_name (pv 1)))) (fg_tup (n := 3) rfl (fgs_cons (fg_name (i := 4) sc_Book_row.nd rfl (by first | exact Or.inl rfl | exact Or.inr rfl)) (fgs_cons (fg_name (i := 5) sc_Book_row.nd rfl (by first | exact Or.inl rfl | exact Or.inr rfl)) (fgs_cons (fg_name (i := 6) sc_Book_row.nd rfl (by first | exact Or.inl rfl | exact Or.inr rfl)) fgs_nil)))))
  (fss_cons (fs_for (passes_of rfl) rfl (fi_any (fe_nameFD (pv 4))) (fg_tup (n := 4) rfl (fgs_cons (fg_name (i := 7) sc_Book_row.nd rfl (by first | exact Or.inl rfl | exact Or.inr rfl)) (fgs_cons (fg_name (i := 8) sc_Book_row.nd rfl (by first | exact Or.inl rfl | exact Or.inr rfl)) (fgs_cons (fg_name (i := 9) sc_Book_row.nd rfl (by first | exact Or.inl rfl | exact Or.inr rfl)) (fgs_cons (fg_name (i := 10) sc_Book_row.nd rfl (by first | exact Or.inl rfl | exact Or.inr rfl)) fgs_nil))))) (fss_one (fs_if (FW.ft (fw_and (ft_cmpF (c_in hu) (fe_name (pv 2)) (fe_name (pv 7))) (fw_and1 (FW.ft (fw_or (ft_cmpF c_is (fe_name (pv 8)) fe_non) (fw_or1 (ft_cmpF (c_in hu) (fe_name (pv 3)) (fe_name (pv 8))))))))) (fss_one (fs_ret (fe_tup (fa_cons (fe_nameFD (pv 9)) (fa_cons (fe_nameFD (pv 10)) fa_nil))))) fss_nil)))
  (fss_one (fs_ret (fe_tup (fa_cons (fe_nameFD (pv 5)) (fa_cons (fe_tup (fa_cons fe_str fa_nil)) fa_nil)))))))

def N_Book_done : List Str := ["self", "stack", "deed"]
theorem sc_Book_done : FnScope N_Book_done ["self", "stack", "deed"] (defScope s_Book_done) := ⟨rfl, rfl, rfl, by decide +kernel, rfl, by decide +kernel, by decide +kernel⟩
noncomputable def T_Book_done_1 (c : Cs) : List Sl → SO :=
  (seqS (ifS (andB (isB (use2 eqDD (use2 ixDD (name 2) (konst (.int 0))) (konst (.str "pop")))) (isB (use2 gtD (useA lenD (consA (name 1) nilA)) (konst (.int 1))))) (retS (frzD (sliceE (name 1) partN (partO (use1 negD (konst (.int 1))))))) nextS)
  (retS (ifE (isB (use2 eqDD (use2 ixDD (name 2) (konst (.int 0))) (konst (.str "swap")))) (useA tupD (starA (frzD (sliceE (name 1) partN (partO (use1 negD (konst (.int 1)))))) (consA (frzD (use2 ixDD (name 2) (konst (.int 1)))) nilA))) (nameFD 1))))
noncomputable def T_Book_done_2 (c : Cs) : List Sl → SO :=
  (seqS (ifS (andB (isB (use2 eqDD (use2 ixDD (name 2) (konst (.int 0))) (konst (.str "push")))) (isB (use2 ltD (useA lenD (consA (name 1) nilA)) (use1 (fldO (okF_deep c) "deep") (name 0))))) (retS (useA tupD (starA (nameFD 1) (consA (frzD (use2 ixDD (name 2) (konst (.int 1)))) nilA)))) nextS)
  (T_Book_done_1 c))
noncomputable def T_Book_done (c : Cs) : List Sl → SO :=
  (T_Book_done_2 c)
noncomputable def f_Book_done (c : Cs) : List (M × D) → FO := bodyF 3 (T_Book_done c)
theorem ok_Book_done (Fa : Facts K mg c) : FnOk P w K mg base (L2.CX P w) 1 Fa.a_Book_done Fa.fd_Book_done ["self", "stack", "deed"] (spF K 3 (f_Book_done c)) := by
  refine fn_okF (N := N_Book_done) (T := T_Book_done c) Fa.F_Book_done sc_Book_done fun cdv A outer s H E hr => ?_
  have hu := Room.u64 hr
  unfold T_Book_done T_Book_done_2 T_Book_done_1
  exact (fss_cons (fs_if (FW.ft (fw_and (ft_cmpF (c_eq hu) (fe_ix hu (fe_name (pv 2)) fe_int) fe_str) (fw_and1 (ft_cmpF c_lt (fe_callB b_len rfl Fa.n_len boot_len (fa_cons (fe_name (pv 1)) fa_nil)) (fe_fld (Fa.fld_deep) (fe_name (pv 0))))))) (fss_one (fs_ret (fe_tup (fa_star (fe_nameFD (pv 1)) (fa_cons (fe_frzD (fe_ix hu (fe_name (pv 2)) fe_int)) fa_nil))))) fss_nil)
  (fss_cons (fs_if (FW.ft (fw_and (ft_cmpF (c_eq hu) (fe_ix hu (fe_name (pv 2)) fe_int) fe_str) (fw_and1 (ft_cmpF c_gt (fe_callB b_len rfl Fa.n_len boot_len (fa_cons (fe_name (pv 1)) fa_nil)) fe_int)))) (fss_one (fs_ret (fe_frzD (fe_slice (fe_name (pv 1)) fp_none (fp_some (fe_negD fe_int)))))) fss_nil)
  (fss_one (fs_ret (fe_if (ft_cmpF (c_eq hu) (fe_ix hu (fe_name (pv 2)) fe_int) fe_str) (fe_tup (fa_star (fe_frzD (fe_slice (fe_name (pv 1)) fp_none (fp_some (fe_negD fe_int)))) (fa_cons (fe_frzD (fe_ix hu (fe_name (pv 2)) fe_int)) fa_nil))) (fe_nameFD (pv 1)))))))

def N_Book_step : List Str := ["self", "stack", "sign", "late", "colour", "deed"]
theorem sc_Book_step : FnScope N_Book_step ["self", "stack", "sign", "late"] (defScope s_Book_step) := ⟨rfl, rfl, rfl, by decide +kernel, rfl, by decide +kernel, by decide +kernel⟩
noncomputable def T_Book_step_1 (c : Cs) : List Sl → SO :=
  (seqS (asgS (frzD (methE c.Book "row" (f_Book_row c) (name 0) (consA (frzD (use2 ixDD (name 1) (use1 negD (konst (.int 1))))) (consA (name 2) (consA (name 3) nilA))))) (tupG 2 (consG (putG 4) (consG (putG 5) nilG))))
  (retS (useA tupD (consA (nameFD 4) (consA (frzD (methE c.Book "done" (f_Book_done c) (name 0) (consA (name 1) (consA (name 5) nilA)))) nilA)))))
noncomputable def T_Book_step (c : Cs) : List Sl → SO :=
  (T_Book_step_1 c)
noncomputable def f_Book_step (c : Cs) : List (M × D) → FO := bodyF 6 (T_Book_step c)
theorem ok_Book_step (Fa : Facts K mg c) : FnOk P w K mg base (L2.CX P w) 2 Fa.a_Book_step Fa.fd_Book_step ["self", "stack", "sign", "late"] (spF K 4 (f_Book_step c)) := by
  refine fn_okF (N := N_Book_step) (T := T_Book_step c) Fa.F_Book_step sc_Book_step fun cdv A outer s H E hr => ?_
  have hu := Room.u64 hr
  unfold T_Book_step T_Book_step_1
  exact (fss_cons (fs_asg (fe_frzD (fe_meth (ok_Book_row Fa) (hr.mono (by decide)) Fa.cls_Book Fa.m_Book_row Fa.b_Book_row (takes_of rfl rfl rfl rfl) (fe_name (pv 0)) (fa_cons (fe_frzD (fe_ix hu (fe_name (pv 1)) (fe_negD fe_int))) (fa_cons (fe_name (pv 2)) (fa_cons (fe_name (pv 3)) fa_nil))) (len_cons (len_cons (len_cons len_nil))))) (fg_tup (n := 2) rfl (fgs_cons (fg_name (i := 4) sc_Book_step.nd rfl (by first | exact Or.inl rfl | exact Or.inr rfl)) (fgs_cons (fg_name (i := 5) sc_Book_step.nd rfl (by first | exact Or.inl rfl | exact Or.inr rfl)) fgs_nil))))
  (fss_one (fs_ret (fe_tup (fa_cons (fe_nameFD (pv 4)) (fa_cons (fe_frzD (fe_meth (ok_Book_done Fa) (hr.mono (by decide)) Fa.cls_Book Fa.m_Book_done Fa.b_Book_done (takes_of rfl rfl rfl rfl) (fe_name (pv 0)) (fa_cons (fe_name (pv 1)) (fa_cons (fe_name (pv 5)) fa_nil)) (len_cons (len_cons len_nil)))) fa_nil))))))

def N_Book_ended : List Str := ["self", "stack", "met"]
theorem sc_Book_ended : FnScope N_Book_ended ["self", "stack"] (defScope s_Book_ended) := ⟨rfl, rfl, rfl, by decide +kernel, rfl, by decide +kernel, by decide +kernel⟩
noncomputable def T_Book_ended_1 (c : Cs) : List Sl → SO :=
  (seqS (setIxS 2 (use2 ixDD (name 1) (use1 negD (konst (.int 1)))) (konst (.bl true)))
  (setS 1 (methE c.Book "done" (f_Book_done c) (name 0) (consA (name 1) (consA (frzD (use2 ixDD (use2 ixDD (use1 (fldO (okF_modes c) "modes") (name 0)) (use2 ixDD (name 1) (use1 negD (konst (.int 1))))) (konst (.int 2)))) nilA)))))
noncomputable def T_Book_ended_2 (c : Cs) : List Sl → SO :=
  (seqS (whileS (isB (use2 notInDD (use2 ixDD (name 1) (use1 negD (konst (.int 1)))) (name 2))) (T_Book_ended_1 c) 100)
  (retS (nameFD 1)))
noncomputable def T_Book_ended_3 (c : Cs) : List Sl → SO :=
  (seqS (setS 2 dnewE)
  (T_Book_ended_2 c))
noncomputable def T_Book_ended (c : Cs) : List Sl → SO :=
  (T_Book_ended_3 c)
noncomputable def f_Book_ended (c : Cs) : List (M × D) → FO := bodyF 3 (T_Book_ended c)
theorem ok_Book_ended (Fa : Facts K mg c) : FnOk P w K mg base (L2.CX P w) 2 Fa.a_Book_ended Fa.fd_Book_ended ["self", "stack"] (spF K 2 (f_Book_ended c)) := by
  refine fn_okF (N := N_Book_ended) (T := T_Book_ended c) Fa.F_Book_ended sc_Book_ended fun cdv A outer s H E hr => ?_
  have hu := Room.u64 hr
  unfold T_Book_ended T_Book_ended_3 T_Book_ended_2 T_Book_ended_1
  exact (fss_cons (fs_set sc_Book_ended.nd rfl (by first | exact Or.inl rfl | exact Or.inr rfl) fe_dnew)
  (fss_cons (fs_while 100 (passes_of rfl) (ft_cmpF (c_notIn hu) (fe_ix hu (fe_name (pv 1)) (fe_negD fe_int)) (fe_name (pv 2))) (fss_cons (fs_setIx hu (pv 2) (fe_ix hu (fe_name (pv 1)) (fe_negD fe_int)) fe_bl)
  (fss_one (fs_set sc_Book_ended.nd rfl (by first | exact Or.inl rfl | exact Or.inr rfl) (fe_meth (ok_Book_done Fa) (hr.mono (by decide)) Fa.cls_Book Fa.m_Book_done Fa.b_Book_done (takes_of rfl rfl rfl rfl) (fe_name (pv 0)) (fa_cons (fe_name (pv 1)) (fa_cons (fe_frzD (fe_ix hu (fe_ix hu (fe_fld (Fa.fld_modes) (fe_name (pv 0))) (fe_ix hu (fe_name (pv 1)) (fe_negD fe_int))) fe_int)) fa_nil)) (len_cons (len_cons len_nil)))))))
  (fss_one (fs_ret (fe_nameFD (pv 1))))))

def N_coloured : List Str := ["book", "stack", "line", "found", "at", "sign", "colour"]
theorem sc_coloured : FnScope N_coloured ["book", "stack", "line"] (defScope s_coloured) := ⟨rfl, rfl, rfl, by decide +kernel, rfl, by decide +kernel, by decide +kernel⟩
noncomputable def T_coloured_1 (c : Cs) : List Sl → SO :=
  (seqS (asgS (frzD (methE c.Book "step" (f_Book_step c) (name 0) (consA (name 1) (consA (name 5) (consA (frzD (sliceE (name 2) (partO (use2 addD (name 4) (konst (.int 1)))) (partO (use2 addD (name 4) (konst (.int 2)))))) nilA))))) (tupG 2 (consG (putG 6) (consG (putG 1) nilG))))
  (dropS (appE 3 (nameFD 6))))
noncomputable def T_coloured_2 (c : Cs) : List Sl → SO :=
  (seqS (forS (enumI2 (nameFD 2)) (tupG 2 (consG (putG 4) (consG (putG 5) nilG))) (T_coloured_1 c))
  (retS (useA tupD (consA (frzD (useA tupC (consA (name 3) nilA))) (consA (frzD (methE c.Book "ended" (f_Book_ended c) (name 0) (consA (name 1) nilA))) nilA)))))
noncomputable def T_coloured_3 (c : Cs) : List Sl → SO :=
  (seqS (setS 3 (useA lstD nilA))
  (T_coloured_2 c))
noncomputable def T_coloured (c : Cs) : List Sl → SO :=
  (T_coloured_3 c)
noncomputable def f_coloured (c : Cs) : List (M × D) → FO := bodyF 7 (T_coloured c)
theorem ok_coloured (Fa : Facts K mg c) : FnOk P w K mg base (L2.CX P w) 3 Fa.a_coloured Fa.fd_coloured ["book", "stack", "line"] (spF K 3 (f_coloured c)) := by
  refine fn_okF (N := N_coloured) (T := T_coloured c) Fa.F_coloured sc_coloured fun cdv A outer s H E hr => ?_
  have hu := Room.u64 hr
  unfold T_coloured T_coloured_3 T_coloured_2 T_coloured_1
  exact (fss_cons (fs_set sc_coloured.nd rfl (by first | exact Or.inl rfl | exact Or.inr rfl) (fe_lst fa_nil))
  (fss_cons (fs_for (passes_of rfl) rfl (fi_enum2 rfl Fa.n_enumerate (fe_nameFD (pv 2))) (fg_tup (n := 2) rfl (fgs_cons (fg_name (i := 4) sc_coloured.nd rfl (by first | exact Or.inl rfl | exact Or.inr rfl)) (fgs_cons (fg_name (i := 5) sc_coloured.nd rfl (by first | exact Or.inl rfl | exact Or.inr rfl)) fgs_nil))) (fss_cons (fs_asg (fe_frzD (fe_meth (ok_Book_step Fa) (hr.mono (by decide)) Fa.cls_Book Fa.m_Book_step Fa.b_Book_step (takes_of rfl rfl rfl rfl) (fe_name (pv 0)) (fa_cons (fe_name (pv 1)) (fa_cons (fe_name (pv 5)) (fa_cons (fe_frzD (fe_slice (fe_name (pv 2)) (fp_some (fe_add (fe_name (pv 4)) fe_int)) (fp_some (fe_add (fe_name (pv 4)) fe_int)))) fa_nil))) (len_cons (len_cons (len_cons len_nil))))) (fg_tup (n := 2) rfl (fgs_cons (fg_name (i := 6) sc_coloured.nd rfl (by first | exact Or.inl rfl | exact Or.inr rfl)) (fgs_cons (fg_name (i := 1) sc_coloured.nd rfl (by first | exact Or.inl rfl | exact Or.inr rfl)) fgs_nil))))
  (fss_one (fs_expr (fe_append (pv 3) (fe_nameFD (pv 6)))))))
  (fss_one (fs_ret (fe_tup (fa_cons (fe_frzD (fe_callTy b_tuple rfl Fa.n_tuple boot_tuple (fa_cons (fe_name (pv 3)) fa_nil))) (fa_cons (fe_frzD (fe_meth (ok_Book_ended Fa) (hr.mono (by decide)) Fa.cls_Book Fa.m_Book_ended Fa.b_Book_ended (takes_of rfl rfl rfl rfl) (fe_name (pv 0)) (fa_cons (fe_name (pv 1)) fa_nil) (len_cons len_nil))) fa_nil)))))))

def N_colour_text : List Str := ["book", "lines", "found", "stack", "line", "colours", "late"]
theorem sc_colour_text : FnScope N_colour_text ["book", "lines"] (defScope s_colour_text) := ⟨rfl, rfl, rfl, by decide +kernel, rfl, by decide +kernel, by decide +kernel⟩
noncomputable def T_colour_text_1 (c : Cs) : List Sl → SO :=
  (seqS (dropS (appE 2 (useA tupD (consA (nameFD 3) (consA (nameFD 5) nilA)))))
  (setS 3 (nameFD 6)))
noncomputable def T_colour_text_2 (c : Cs) : List Sl → SO :=
  (seqS (asgS (frzD (callE (f_coloured c) (consA (name 0) (consA (name 3) (consA (name 4) nilA))))) (tupG 2 (consG (putG 5) (consG (putG 6) nilG))))
  (T_colour_text_1 c))
noncomputable def T_colour_text_3 (c : Cs) : List Sl → SO :=
  (seqS (forS (anyI (nameFD 1)) (putG 4) (T_colour_text_2 c))
  (retS (nameFD 2)))
noncomputable def T_colour_text_4 (c : Cs) : List Sl → SO :=
  (seqS (parS 2 3 (consA (useA lstD nilA) (consA (useA tupD (consA (frzD (use1 (fldO (okF_first c) "first") (name 0))) nilA)) nilA)))
  (T_colour_text_3 c))
noncomputable def T_colour_text_5 (c : Cs) : List Sl → SO :=
  (seqS (dropS (callE (f_check_lines c) (consA (name 0) (consA (name 1) nilA))))
  (T_colour_text_4 c))
noncomputable def T_colour_text_6 (c : Cs) : List Sl → SO :=
  (seqS (dropS (callE (f_check_book c) (consA (name 0) nilA)))
  (T_colour_text_5 c))
noncomputable def T_colour_text (c : Cs) : List Sl → SO :=
  (T_colour_text_6 c)
noncomputable def f_colour_text (c : Cs) : List (M × D) → FO := bodyF 7 (T_colour_text c)
theorem ok_colour_text (Fa : Facts K mg c) : FnOk P w K mg base (L2.CX P w) 4 Fa.a_colour_text Fa.fd_colour_text ["book", "lines"] (spF K 2 (f_colour_text c)) := by
  refine fn_okF (N := N_colour_text) (T := T_colour_text c) Fa.F_colour_text sc_colour_text fun cdv A outer s H E hr => ?_
  have hu := Room.u64 hr
  unfold T_colour_text T_colour_text_6 T_colour_text_5 T_colour_text_4 T_colour_text_3 T_colour_text_2 T_colour_text_1
  exact (fss_cons (fs_expr (fe_call (ok_check_book Fa) (hr.mono (by decide)) rfl Fa.g_check_book Fa.F_check_book.kp Fa.b_check_book (takes_of rfl rfl rfl rfl) (fa_cons (fe_name (pv 0)) fa_nil) (len_cons len_nil)))
  (fss_cons (fs_expr (fe_call (ok_check_lines Fa) (hr.mono (by decide)) rfl Fa.g_check_lines Fa.F_check_lines.kp Fa.b_check_lines (takes_of rfl rfl rfl rfl) (fa_cons (fe_name (pv 0)) (fa_cons (fe_name (pv 1)) fa_nil)) (len_cons (len_cons len_nil))))
  (fss_cons (fs_par rfl sc_colour_text.nd rfl rfl (by decide) rfl rfl (fa_cons (fe_lst fa_nil) (fa_cons (fe_tup (fa_cons (fe_frzD (fe_fld (Fa.fld_first) (fe_name (pv 0)))) fa_nil)) fa_nil)) rfl)
  (fss_cons (fs_for (passes_of rfl) rfl (fi_any (fe_nameFD (pv 1))) (fg_name (i := 4) sc_colour_text.nd rfl (by first | exact Or.inl rfl | exact Or.inr rfl)) (fss_cons (fs_asg (fe_frzD (fe_call (ok_coloured Fa) (hr.mono (by decide)) rfl Fa.g_coloured Fa.F_coloured.kp Fa.b_coloured (takes_of rfl rfl rfl rfl) (fa_cons (fe_name (pv 0)) (fa_cons (fe_name (pv 3)) (fa_cons (fe_name (pv 4)) fa_nil))) (len_cons (len_cons (len_cons len_nil))))) (fg_tup (n := 2) rfl (fgs_cons (fg_name (i := 5) sc_colour_text.nd rfl (by first | exact Or.inl rfl | exact Or.inr rfl)) (fgs_cons (fg_name (i := 6) sc_colour_text.nd rfl (by first | exact Or.inl rfl | exact Or.inr rfl)) fgs_nil))))
  (fss_cons (fs_expr (fe_append (pv 2) (fe_tup (fa_cons (fe_nameFD (pv 3)) (fa_cons (fe_nameFD (pv 5)) fa_nil)))))
  (fss_one (fs_set sc_colour_text.nd rfl (by first | exact Or.inl rfl | exact Or.inr rfl) (fe_nameFD (pv 6)))))))
  (fss_one (fs_ret (fe_nameFD (pv 2))))))))

def N_write_spans : List Str := ["book", "lines", "found", "stack", "colours", "rows", "first", "last", "colour"]
theorem sc_write_spans : FnScope N_write_spans ["book", "lines"] (defScope s_write_spans) := ⟨rfl, rfl, rfl, by decide +kernel, rfl, by decide +kernel, by decide +kernel⟩
noncomputable def T_write_spans_1 (c : Cs) : List Sl → EO :=
  (lcE [6, 7, 8] (anyI (frzD (callE (f_spans c) (consA (name 4) nilA)))) (tupG 3 (consG (putG 6) (consG (putG 7) (consG (putG 8) nilG)))) yesB (frzD (use2 addD (use2 addD (use2 addD (use2 addD (useA strD (consA (name 6) nilA)) (konst (.str "-"))) (useA strD (consA (name 7) nilA))) (konst (.str " "))) (name 8))))
noncomputable def T_write_spans_2 (c : Cs) : List Sl → SO :=
  (seqS (setS 5 (T_write_spans_1 c))
  (dropS (appE 2 (ifE (isB (use2 neDD (name 5) (useA lstD nilA))) (frzD (use1 (joinD ", ") (name 5))) (konst (.str "-"))))))
noncomputable def T_write_spans_3 (c : Cs) : List Sl → SO :=
  (seqS (forS (anyI (frzD (callE (f_colour_text c) (consA (name 0) (consA (name 1) nilA))))) (tupG 2 (consG (putG 3) (consG (putG 4) nilG))) (T_write_spans_2 c))
  (retS (frzD (use1 (joinD "\n") (name 2)))))
noncomputable def T_write_spans_4 (c : Cs) : List Sl → SO :=
  (seqS (setS 2 (useA lstD nilA))
  (T_write_spans_3 c))
noncomputable def T_write_spans (c : Cs) : List Sl → SO :=
  (T_write_spans_4 c)
noncomputable def f_write_spans (c : Cs) : List (M × D) → FO := bodyF 9 (T_write_spans c)
theorem ok_write_spans (Fa : Facts K mg c) : FnOk P w K mg base (L2.CX P w) 5 Fa.a_write_spans Fa.fd_write_spans ["book", "lines"] (spF K 2 (f_write_spans c)) := by
  refine fn_okF (N := N_write_spans) (T := T_write_spans c) Fa.F_write_spans sc_write_spans fun cdv A outer s H E hr => ?_
  have hu := Room.u64 hr
  unfold T_write_spans T_write_spans_4 T_write_spans_3 T_write_spans_2 T_write_spans_1
  exact (fss_cons (fs_set sc_write_spans.nd rfl (by first | exact Or.inl rfl | exact Or.inr rfl) (fe_lst fa_nil))
  (fss_cons (fs_for (passes_of rfl) rfl (fi_any (fe_frzD (fe_call (ok_colour_text Fa) (hr.mono (by decide)) rfl Fa.g_colour_text Fa.F_colour_text.kp Fa.b_colour_text (takes_of rfl rfl rfl rfl) (fa_cons (fe_name (pv 0)) (fa_cons (fe_name (pv 1)) fa_nil)) (len_cons (len_cons len_nil))))) (fg_tup (n := 2) rfl (fgs_cons (fg_name (i := 3) sc_write_spans.nd rfl (by first | exact Or.inl rfl | exact Or.inr rfl)) (fgs_cons (fg_name (i := 4) sc_write_spans.nd rfl (by first | exact Or.inl rfl | exact Or.inr rfl)) fgs_nil))) (fss_cons (fs_setLc (own := [("first", 6), ("last", 7), ("colour", 8)]) rfl sc_write_spans.nd rfl rfl (sw_true rfl rfl rfl (by decide +kernel)) (fi_any (fe_frzD (fe_call (ok_spans Fa) (hr.mono (by decide)) rfl Fa.g_spans Fa.F_spans.kp Fa.b_spans (takes_of rfl rfl rfl rfl) (fa_cons (fe_name (pv 4)) fa_nil) (len_cons len_nil)))) (blkOk_by (by first | rfl | decide +kernel | with_unfolding_all rfl)) (fun _ _ _ _ _ => (fg_tup (n := 3) rfl (fgs_cons (fg_name (i := 6) sc_write_spans.nd rfl (by first | exact Or.inl rfl | exact Or.inr rfl)) (fgs_cons (fg_name (i := 7) sc_write_spans.nd rfl (by first | exact Or.inl rfl | exact Or.inr rfl)) (fgs_cons (fg_name (i := 8) sc_write_spans.nd rfl (by first | exact Or.inl rfl | exact Or.inr rfl)) fgs_nil))))) (fun _ _ _ _ _ => fts_nil) (fun _ _ _ _ _ => (fe_frzD (fe_add (fe_add (fe_add (fe_add (fe_callTy b_str rfl Fa.n_str boot_str (fa_cons (fe_name (pv 6)) fa_nil)) fe_str) (fe_callTy b_str rfl Fa.n_str boot_str (fa_cons (fe_name (pv 7)) fa_nil))) fe_str) (fe_name (pv 8))))))
  (fss_one (fs_expr (fe_append (pv 2) (fe_if (ft_cmpF (c_ne hu) (fe_name (pv 5)) (fe_lst fa_nil)) (fe_frzD (fe_join pe_str (fe_name (pv 5)))) fe_str))))))
  (fss_one (fs_ret (fe_frzD (fe_join pe_str (fe_name (pv 2))))))))

def N_BadName___init__ : List Str := ["self", "name"]
theorem sc_BadName___init__ : FnScope N_BadName___init__ ["self", "name"] (defScope s_BadName___init__) := ⟨rfl, rfl, rfl, by decide +kernel, rfl, by decide +kernel, by decide +kernel⟩
def fns_BadName : List Str := ["name"]
theorem ok_BadName___init__ (Fa : Facts K mg c) : FnOk P w K mg base (L2.CX P w) 1 Fa.a_BadName___init__ Fa.fd_BadName___init__ ["self", "name"] (spX c.BadName fns_BadName) := by
  refine fn_initX (N := N_BadName___init__) (l := [("name", 1)]) Fa.oex_BadName Fa.F_BadName___init__ sc_BadName___init__ (by simp) (by decide) rfl (by decide) (fun j p h => ?_) (fun p hp => ?_) fun cdv A outer s H E hr => ?_
  · match j, h with
    | 0, h => cases h; rfl
  · simp only [List.mem_cons, List.not_mem_nil, or_false] at hp
    rcases hp with rfl
    · exact Fa.no_BadName_name
  · exact (pss_cons (ps_ost (pv 0) (pv 1)) pss_nil)

def N_is_paint : List Str := ["colour", "paint"]
theorem sc_is_paint : FnScope N_is_paint ["colour", "paint"] (defScope s_is_paint) := ⟨rfl, rfl, rfl, by decide +kernel, rfl, by decide +kernel, by decide +kernel⟩
noncomputable def T_is_paint (c : Cs) : List Sl → SO :=
  (retS (andE (callE (f_is_name c) (consA (name 0) nilA)) (andE (use1 (isiO ["str"] (own_no c)) (name 1)) (use2 eqDD (useA lenD (consA (name 1) nilA)) (konst (.int 1))))))
noncomputable def f_is_paint (c : Cs) : List (M × D) → FO := bodyF 2 (T_is_paint c)
theorem ok_is_paint (Fa : Facts K mg c) : FnOk P w K mg base (L2.CX P w) 2 Fa.a_is_paint Fa.fd_is_paint ["colour", "paint"] (spF K 2 (f_is_paint c)) := by
  refine fn_okF (N := N_is_paint) (T := T_is_paint c) Fa.F_is_paint sc_is_paint fun cdv A outer s H E hr => ?_
  have hu := Room.u64 hr
  unfold T_is_paint
  exact (fss_one (fs_ret (fe_and (fe_call (ok_is_name Fa) (hr.mono (by decide)) rfl Fa.g_is_name Fa.F_is_name.kp Fa.b_is_name (takes_of rfl rfl rfl rfl) (fa_cons (fe_name (pv 0)) fa_nil) (len_cons len_nil)) (fe_and (fe_isiT (nm := "str") rfl (by decide) (Fa.isi_no1 "str" (by decide)) rfl Fa.n_isinstance rfl Fa.n_str boot_str (fe_name (pv 1))) (fe_one (fe_cmp (c_eq hu) (fe_callB b_len rfl Fa.n_len boot_len (fa_cons (fe_name (pv 1)) fa_nil)) fe_int))))))

def N_painted : List Str := ["book", "lines", "paints", "colour", "paint", "stack", "colours"]
theorem sc_painted : FnScope N_painted ["book", "lines", "paints"] (defScope s_painted) := ⟨rfl, rfl, rfl, by decide +kernel, rfl, by decide +kernel, by decide +kernel⟩
noncomputable def T_painted_1 (c : Cs) : List Sl → EO :=
  (lcE [3, 4] (itemsI (nameFD 2)) (tupG 2 (consG (putG 3) (consG (putG 4) nilG))) yesB (frzD (callE (f_is_paint c) (consA (name 3) (consA (name 4) nilA)))))
noncomputable def T_painted_2 (c : Cs) : List Sl → EO :=
  (lcE [3] (anyI (nameFD 6)) (putG 3) yesB (frzD (getE (name 2) (nameFD 3) (konst (.str "?")))))
noncomputable def T_painted_3 (c : Cs) : List Sl → EO :=
  (lcE [5, 6] (anyI (frzD (callE (f_colour_text c) (consA (name 0) (consA (name 1) nilA))))) (tupG 2 (consG (putG 5) (consG (putG 6) nilG))) yesB (frzD (use1 (joinD "") (T_painted_2 c))))
noncomputable def T_painted_4 (c : Cs) : List Sl → SO :=
  (seqS (ifS (orB (notB (tru (use1 (isiO ["dict"] (own_no c)) (name 2)))) (notB (tru (useA allD (consA (T_painted_1 c) nilA))))) (raiseS c.BadName fns_BadName (consA (nameFD 2) nilA)) nextS)
  (retS (frzD (T_painted_3 c))))
noncomputable def T_painted (c : Cs) : List Sl → SO :=
  (T_painted_4 c)
noncomputable def f_painted (c : Cs) : List (M × D) → FO := bodyF 7 (T_painted c)
theorem ok_painted (Fa : Facts K mg c) : FnOk P w K mg base (L2.CX P w) 5 Fa.a_painted Fa.fd_painted ["book", "lines", "paints"] (spF K 3 (f_painted c)) := by
  refine fn_okF (N := N_painted) (T := T_painted c) Fa.F_painted sc_painted fun cdv A outer s H E hr => ?_
  have hu := Room.u64 hr
  unfold T_painted T_painted_4 T_painted_3 T_painted_2 T_painted_1
  exact (fss_cons (fs_if (FW.ft (fw_or (ft_not (ft_val (fe_isiT (nm := "dict") rfl (by decide) (Fa.isi_no1 "dict" (by decide)) rfl Fa.n_isinstance rfl Fa.n_dict boot_dict (fe_name (pv 2))))) (fw_or1 (ft_not (ft_val (fe_callB (b_all rfl) rfl Fa.n_all boot_all (fa_cons (fe_lc (own := [("colour", 3), ("paint", 4)]) rfl sc_painted.nd (fi_items (fe_nameFD (pv 2))) (blkOk_by (by first | rfl | decide +kernel | with_unfolding_all rfl)) (fun _ _ _ _ _ => (fg_tup (n := 2) rfl (fgs_cons (fg_name (i := 3) sc_painted.nd rfl (by first | exact Or.inl rfl | exact Or.inr rfl)) (fgs_cons (fg_name (i := 4) sc_painted.nd rfl (by first | exact Or.inl rfl | exact Or.inr rfl)) fgs_nil)))) (fun _ _ _ _ _ => fts_nil) (fun _ _ _ _ _ => (fe_frzD (fe_call (ok_is_paint Fa) (hr.mono (by decide)) rfl Fa.g_is_paint Fa.F_is_paint.kp Fa.b_is_paint takes0 (fa_cons (fe_name (pv 3)) (fa_cons (fe_name (pv 4)) fa_nil)) (len_cons (len_cons len_nil)))))) fa_nil))))))) (fss_one (fs_raise rfl (takes_of rfl rfl rfl rfl) Fa.oex_BadName Fa.ini_BadName Fa.typ_BadName (ok_BadName___init__ Fa) (hr.mono (by decide)) Fa.b_BadName___init__ rfl Fa.g_BadName (fa_cons (fe_nameFD (pv 2)) fa_nil))) fss_nil)
  (fss_one (fs_ret (fe_frzD (fe_lc (own := [("stack", 5), ("colours", 6)]) rfl sc_painted.nd (fi_any (fe_frzD (fe_call (ok_colour_text Fa) (hr.mono (by decide)) rfl Fa.g_colour_text Fa.F_colour_text.kp Fa.b_colour_text (takes_of rfl rfl rfl rfl) (fa_cons (fe_name (pv 0)) (fa_cons (fe_name (pv 1)) fa_nil)) (len_cons (len_cons len_nil))))) (blkOk_by (by first | rfl | decide +kernel | with_unfolding_all rfl)) (fun _ _ _ _ _ => (fg_tup (n := 2) rfl (fgs_cons (fg_name (i := 5) sc_painted.nd rfl (by first | exact Or.inl rfl | exact Or.inr rfl)) (fgs_cons (fg_name (i := 6) sc_painted.nd rfl (by first | exact Or.inl rfl | exact Or.inr rfl)) fgs_nil)))) (fun _ _ _ _ _ => fts_nil) (fun _ _ _ _ _ => (fe_frzD (fe_join pe_str (fe_lc (own := [("colour", 3)]) rfl sc_painted.nd (fi_any (fe_nameFD (pv 6))) (blkOk_by (by first | rfl | decide +kernel | with_unfolding_all rfl)) (fun _ _ _ _ _ => (fg_name (i := 3) sc_painted.nd rfl (by first | exact Or.inl rfl | exact Or.inr rfl))) (fun _ _ _ _ _ => fts_nil) (fun _ _ _ _ _ => (fe_frzD (fe_get hu (fe_name (pv 2)) (fe_nameFD (pv 3)) fe_str ⟨rfl, rfl, rfl, rfl⟩))))))))))))

def N__law_spread : List Str := ["rows", "found", "first", "end", "colour"]
theorem sc__law_spread : FnScope N__law_spread ["rows"] (defScope s__law_spread) := ⟨rfl, rfl, rfl, by decide +kernel, rfl, by decide +kernel, by decide +kernel⟩
noncomputable def T__law_spread_1 (c : Cs) : List Sl → SO :=
  (setS 1 (use2 addD (name 1) (use2 mulDD (useA lstD (consA (nameFD 4) nilA)) (use2 addD (use2 subD (name 3) (name 2)) (konst (.int 1))))))
noncomputable def T__law_spread_2 (c : Cs) : List Sl → SO :=
  (seqS (forS (anyI (nameFD 0)) (tupG 3 (consG (putG 2) (consG (putG 3) (consG (putG 4) nilG)))) (T__law_spread_1 c))
  (retS (nameFD 1)))
noncomputable def T__law_spread_3 (c : Cs) : List Sl → SO :=
  (seqS (setS 1 (useA lstD nilA))
  (T__law_spread_2 c))
noncomputable def T__law_spread (c : Cs) : List Sl → SO :=
  (T__law_spread_3 c)
noncomputable def f__law_spread (c : Cs) : List (M × D) → FO := bodyF 5 (T__law_spread c)
theorem ok__law_spread (Fa : Facts K mg c) : FnOk P w K mg base (L2.CX P w) 1 Fa.a__law_spread Fa.fd__law_spread ["rows"] (spF K 1 (f__law_spread c)) := by
  refine fn_okF (N := N__law_spread) (T := T__law_spread c) Fa.F__law_spread sc__law_spread fun cdv A outer s H E hr => ?_
  have hu := Room.u64 hr
  unfold T__law_spread T__law_spread_3 T__law_spread_2 T__law_spread_1
  exact (fss_cons (fs_set sc__law_spread.nd rfl (by first | exact Or.inl rfl | exact Or.inr rfl) (fe_lst fa_nil))
  (fss_cons (fs_for (passes_of rfl) rfl (fi_any (fe_nameFD (pv 0))) (fg_tup (n := 3) rfl (fgs_cons (fg_name (i := 2) sc__law_spread.nd rfl (by first | exact Or.inl rfl | exact Or.inr rfl)) (fgs_cons (fg_name (i := 3) sc__law_spread.nd rfl (by first | exact Or.inl rfl | exact Or.inr rfl)) (fgs_cons (fg_name (i := 4) sc__law_spread.nd rfl (by first | exact Or.inl rfl | exact Or.inr rfl)) fgs_nil)))) (fss_one (fs_set sc__law_spread.nd rfl (by first | exact Or.inl rfl | exact Or.inr rfl) (fe_add (fe_name (pv 1)) (fe_mul (fe_lst (fa_cons (fe_nameFD (pv 4)) fa_nil)) (fe_add (fe_sub (fe_name (pv 3)) (fe_name (pv 2))) fe_int))))))
  (fss_one (fs_ret (fe_nameFD (pv 1))))))

def N_is_mode : List Str := ["book", "mode"]
theorem sc_is_mode : FnScope N_is_mode ["book", "mode"] (defScope s_is_mode) := ⟨rfl, rfl, rfl, by decide +kernel, rfl, by decide +kernel, by decide +kernel⟩
noncomputable def T_is_mode (c : Cs) : List Sl → SO :=
  (retS (andE (use1 (isiO ["str"] (own_no c)) (name 1)) (use2 inDD (name 1) (use1 (fldO (okF_modes c) "modes") (name 0)))))
noncomputable def f_is_mode (c : Cs) : List (M × D) → FO := bodyF 2 (T_is_mode c)
theorem ok_is_mode (Fa : Facts K mg c) : FnOk P w K mg base (L2.CX P w) 1 Fa.a_is_mode Fa.fd_is_mode ["book", "mode"] (spF K 2 (f_is_mode c)) := by
  refine fn_okF (N := N_is_mode) (T := T_is_mode c) Fa.F_is_mode sc_is_mode fun cdv A outer s H E hr => ?_
  have hu := Room.u64 hr
  unfold T_is_mode
  exact (fss_one (fs_ret (fe_and (fe_isiT (nm := "str") rfl (by decide) (Fa.isi_no1 "str" (by decide)) rfl Fa.n_isinstance rfl Fa.n_str boot_str (fe_name (pv 1))) (fe_one (fe_cmp (c_in hu) (fe_name (pv 1)) (fe_fld (Fa.fld_modes) (fe_name (pv 0))))))))

def N_is_stack : List Str := ["book", "stack", "mode"]
theorem sc_is_stack : FnScope N_is_stack ["book", "stack"] (defScope s_is_stack) := ⟨rfl, rfl, rfl, by decide +kernel, rfl, by decide +kernel, by decide +kernel⟩
noncomputable def T_is_stack_1 (c : Cs) : List Sl → EO :=
  (lcE [2] (anyI (nameFD 1)) (putG 2) yesB (frzD (callE (f_is_mode c) (consA (name 0) (consA (name 2) nilA)))))
noncomputable def T_is_stack (c : Cs) : List Sl → SO :=
  (retS (andE (use1 (isiO ["tuple"] (own_no c)) (name 1)) (andE (chainE leD leD (konst (.int 1)) (useA lenD (consA (name 1) nilA)) (use1 (fldO (okF_deep c) "deep") (name 0))) (useA allD (consA (T_is_stack_1 c) nilA)))))
noncomputable def f_is_stack (c : Cs) : List (M × D) → FO := bodyF 3 (T_is_stack c)
theorem ok_is_stack (Fa : Facts K mg c) : FnOk P w K mg base (L2.CX P w) 2 Fa.a_is_stack Fa.fd_is_stack ["book", "stack"] (spF K 2 (f_is_stack c)) := by
  refine fn_okF (N := N_is_stack) (T := T_is_stack c) Fa.F_is_stack sc_is_stack fun cdv A outer s H E hr => ?_
  have hu := Room.u64 hr
  unfold T_is_stack T_is_stack_1
  exact (fss_one (fs_ret (fe_and (fe_isiT (nm := "tuple") rfl (by decide) (Fa.isi_no1 "tuple" (by decide)) rfl Fa.n_isinstance rfl Fa.n_tuple boot_tuple (fe_name (pv 1))) (fe_and (fe_chain c_le c_le fe_int (fe_callB b_len rfl Fa.n_len boot_len (fa_cons (fe_name (pv 1)) fa_nil)) (fe_fld (Fa.fld_deep) (fe_name (pv 0)))) (fe_one (fe_callB (b_all rfl) rfl Fa.n_all boot_all (fa_cons (fe_lc (own := [("mode", 2)]) rfl sc_is_stack.nd (fi_any (fe_nameFD (pv 1))) (blkOk_by (by first | rfl | decide +kernel | with_unfolding_all rfl)) (fun _ _ _ _ _ => (fg_name (i := 2) sc_is_stack.nd rfl (by first | exact Or.inl rfl | exact Or.inr rfl))) (fun _ _ _ _ _ => fts_nil) (fun _ _ _ _ _ => (fe_frzD (fe_call (ok_is_mode Fa) (hr.mono (by decide)) rfl Fa.g_is_mode Fa.F_is_mode.kp Fa.b_is_mode takes0 (fa_cons (fe_name (pv 0)) (fa_cons (fe_name (pv 2)) fa_nil)) (len_cons (len_cons len_nil)))))) fa_nil)))))))

def N_check_stack : List Str := ["book", "stack"]
theorem sc_check_stack : FnScope N_check_stack ["book", "stack"] (defScope s_check_stack) := ⟨rfl, rfl, rfl, by decide +kernel, rfl, by decide +kernel, by decide +kernel⟩
noncomputable def T_check_stack (c : Cs) : List Sl → SO :=
  (ifS (notB (tru (callE (f_is_stack c) (consA (name 0) (consA (name 1) nilA))))) (raiseS c.BadName fns_BadName (consA (nameFD 1) nilA)) nextS)
noncomputable def f_check_stack (c : Cs) : List (M × D) → FO := bodyF 2 (T_check_stack c)
theorem ok_check_stack (Fa : Facts K mg c) : FnOk P w K mg base (L2.CX P w) 3 Fa.a_check_stack Fa.fd_check_stack ["book", "stack"] (spF K 2 (f_check_stack c)) := by
  refine fn_okF (N := N_check_stack) (T := T_check_stack c) Fa.F_check_stack sc_check_stack fun cdv A outer s H E hr => ?_
  have hu := Room.u64 hr
  unfold T_check_stack
  exact (fss_one (fs_if (ft_not (ft_val (fe_call (ok_is_stack Fa) (hr.mono (by decide)) rfl Fa.g_is_stack Fa.F_is_stack.kp Fa.b_is_stack (takes_of rfl rfl rfl rfl) (fa_cons (fe_name (pv 0)) (fa_cons (fe_name (pv 1)) fa_nil)) (len_cons (len_cons len_nil))))) (fss_one (fs_raise rfl (takes_of rfl rfl rfl rfl) Fa.oex_BadName Fa.ini_BadName Fa.typ_BadName (ok_BadName___init__ Fa) (hr.mono (by decide)) Fa.b_BadName___init__ rfl Fa.g_BadName (fa_cons (fe_nameFD (pv 1)) fa_nil))) fss_nil))

def N_colour_line : List Str := ["book", "stack", "line"]
theorem sc_colour_line : FnScope N_colour_line ["book", "stack", "line"] (defScope s_colour_line) := ⟨rfl, rfl, rfl, by decide +kernel, rfl, by decide +kernel, by decide +kernel⟩
noncomputable def T_colour_line_1 (c : Cs) : List Sl → SO :=
  (seqS (dropS (callE (f_check_lines c) (consA (name 0) (consA (frzD (useA lstD (consA (nameFD 2) nilA))) nilA))))
  (retS (frzD (callE (f_coloured c) (consA (name 0) (consA (name 1) (consA (name 2) nilA)))))))
noncomputable def T_colour_line_2 (c : Cs) : List Sl → SO :=
  (seqS (dropS (callE (f_check_stack c) (consA (name 0) (consA (name 1) nilA))))
  (T_colour_line_1 c))
noncomputable def T_colour_line_3 (c : Cs) : List Sl → SO :=
  (seqS (dropS (callE (f_check_book c) (consA (name 0) nilA)))
  (T_colour_line_2 c))
noncomputable def T_colour_line (c : Cs) : List Sl → SO :=
  (T_colour_line_3 c)
noncomputable def f_colour_line (c : Cs) : List (M × D) → FO := bodyF 3 (T_colour_line c)
theorem ok_colour_line (Fa : Facts K mg c) : FnOk P w K mg base (L2.CX P w) 4 Fa.a_colour_line Fa.fd_colour_line ["book", "stack", "line"] (spF K 3 (f_colour_line c)) := by
  refine fn_okF (N := N_colour_line) (T := T_colour_line c) Fa.F_colour_line sc_colour_line fun cdv A outer s H E hr => ?_
  have hu := Room.u64 hr
  unfold T_colour_line T_colour_line_3 T_colour_line_2 T_colour_line_1
  exact (fss_cons (fs_expr (fe_call (ok_check_book Fa) (hr.mono (by decide)) rfl Fa.g_check_book Fa.F_check_book.kp Fa.b_check_book (takes_of rfl rfl rfl rfl) (fa_cons (fe_name (pv 0)) fa_nil) (len_cons len_nil)))
  (fss_cons (fs_expr (fe_call (ok_check_stack Fa) (hr.mono (by decide)) rfl Fa.g_check_stack Fa.F_check_stack.kp Fa.b_check_stack (takes_of rfl rfl rfl rfl) (fa_cons (fe_name (pv 0)) (fa_cons (fe_name (pv 1)) fa_nil)) (len_cons (len_cons len_nil))))
  (fss_cons (fs_expr (fe_call (ok_check_lines Fa) (hr.mono (by decide)) rfl Fa.g_check_lines Fa.F_check_lines.kp Fa.b_check_lines (takes_of rfl rfl rfl rfl) (fa_cons (fe_name (pv 0)) (fa_cons (fe_frzD (fe_lst (fa_cons (fe_nameFD (pv 2)) fa_nil))) fa_nil)) (len_cons (len_cons len_nil))))
  (fss_one (fs_ret (fe_frzD (fe_call (ok_coloured Fa) (hr.mono (by decide)) rfl Fa.g_coloured Fa.F_coloured.kp Fa.b_coloured (takes_of rfl rfl rfl rfl) (fa_cons (fe_name (pv 0)) (fa_cons (fe_name (pv 1)) (fa_cons (fe_name (pv 2)) fa_nil))) (len_cons (len_cons (len_cons len_nil))))))))))

def N_law : List Str := ["script", "draw", "signs", "told", "book", "lines", "due", "last", "number", "line", "stack", "colours", "rows", "texts", "paints", "at", "front", "back", "end", "bad", "place", "fault", "one", "other", "first", "colour"]
theorem sc_law : FnScope N_law ["script"] (defScope s_law) := ⟨rfl, rfl, rfl, by decide +kernel, rfl, by decide +kernel, by decide +kernel⟩
noncomputable def T_law_1 (c : Cs) : List Sl → EO :=
  (lcE [22, 23] (zipI (consA (nameFD 12) (consA (frzD (sliceE (name 12) (partO (konst (.int 1))) partN)) nilA))) (tupG 2 (consG (putG 22) (consG (putG 23) nilG))) yesB (orE (use2 neDD (use2 addD (use2 ixDD (name 22) (konst (.int 1))) (konst (.int 1))) (use2 ixDD (name 23) (konst (.int 0)))) (use2 eqDD (use2 ixDD (name 22) (konst (.int 2))) (use2 ixDD (name 23) (konst (.int 2))))))
noncomputable def T_law_2 (c : Cs) : List Sl → SO :=
  (seqS (ifS (isB (use2 neDD (callE (f__law_spread c) (consA (name 12) nilA)) (useA lstC (consA (name 11) nilA)))) (retS (konst (.bl false))) nextS)
  (ifS (orB (tru (useA anyD (consA (T_law_1 c) nilA))) (andB (isB (use2 neDD (name 12) (useA lstD nilA))) (isB (use2 neDD (use2 ixDD (use2 ixDD (name 12) (konst (.int 0))) (konst (.int 0))) (konst (.int 0)))))) (retS (konst (.bl false))) nextS))
noncomputable def T_law_3 (c : Cs) : List Sl → SO :=
  (seqS (setS 12 (callE (f_spans c) (consA (name 11) nilA)))
  (T_law_2 c))
noncomputable def T_law_4 (c : Cs) : List Sl → SO :=
  (seqS (ifS (orB (isB (use2 neDD (callE (f_colour_line c) (consA (name 4) (consA (name 10) (consA (name 9) nilA)))) (callE (f__law_line c) (consA (name 3) (consA (name 10) (consA (name 9) nilA)))))) (isB (use2 neDD (useA lenD (consA (name 11) nilA)) (useA lenD (consA (name 9) nilA))))) (retS (konst (.bl false))) nextS)
  (T_law_3 c))
noncomputable def T_law_5 (c : Cs) : List Sl → SO :=
  (seqS (asgS (frzD (use2 ixDD (name 6) (name 8))) (tupG 2 (consG (putG 10) (consG (putG 11) nilG))))
  (T_law_4 c))
noncomputable def T_law_6 (c : Cs) : List Sl → EO :=
  (lcE [24, 18, 25] (anyI (frzD (callE (f_spans c) (consA (name 11) nilA)))) (tupG 3 (consG (putG 24) (consG (putG 18) (consG (putG 25) nilG)))) yesB (frzD (use2 addD (use2 addD (use2 addD (use2 addD (useA strD (consA (name 24) nilA)) (konst (.str "-"))) (useA strD (consA (name 18) nilA))) (konst (.str " "))) (name 25))))
noncomputable def T_law_7 (c : Cs) : List Sl → SO :=
  (seqS (setS 12 (T_law_6 c))
  (dropS (appE 13 (ifE (isB (use2 neDD (name 12) (useA lstD nilA))) (frzD (use1 (joinD ", ") (name 12))) (konst (.str "-"))))))
noncomputable def T_law_8 (c : Cs) : List Sl → EO :=
  (lcE [25] (anyI (nameFD 11)) (putG 25) yesB (frzD (getE (name 14) (nameFD 25) (konst (.str "?")))))
noncomputable def T_law_9 (c : Cs) : List Sl → EO :=
  (lcE [10, 11] (anyI (nameFD 6)) (tupG 2 (consG (putG 10) (consG (putG 11) nilG))) yesB (frzD (use1 (joinD "") (T_law_8 c))))
noncomputable def T_law_10 (c : Cs) : List Sl → SO :=
  (seqS (dropS (callE (f_colour_text c) (consA (name 4) (consA (name 19) nilA))))
  (retS (konst (.bl false))))
noncomputable def T_law_11 (c : Cs) : List Sl → SO :=
  (seqS (asgS (frzD (callE (f__law_pick c) (consA (name 1) (consA (frzD (useA lstD (consA (useA tupD (consA (konst .non) (consA (konst .non) nilA))) (consA (useA tupD (consA (frzD (use2 addD (name 5) (useA lstD (consA (konst (.str "!")) nilA)))) (consA (frzD (useA lenD (consA (name 5) nilA))) nilA))) (consA (useA tupD (consA (frzD (use2 addD (name 5) (useA lstD (consA (konst .non) nilA)))) (consA (frzD (useA lenD (consA (name 5) nilA))) nilA))) (consA (useA tupD (consA (frzD (use2 mulDD (useA lstD (consA (konst (.str "")) nilA)) (konst (.int 65)))) (consA (konst .non) nilA))) (consA (useA tupD (consA (frzD (useA lstD (consA (frzD (use2 mulDD (use2 ixDD (name 2) (konst (.int 0))) (konst (.int 81)))) nilA))) (consA (konst (.int 0)) nilA))) nilA))))))) nilA)))) (tupG 2 (consG (putG 19) (consG (putG 20) nilG))))
  (tryS 21 (ex_BadText c) (T_law_10 c) (fun a d C => (retS (use2 eqDD (excE 21 a d C (okX_number c) "number") (name 20))))))
noncomputable def T_law_12 (c : Cs) : List Sl → SO :=
  (seqS (ifS (orB (isB (use2 neDD (use2 addD (name 16) (name 17)) (name 6))) (isB (use2 neDD (name 18) (name 7)))) (retS (konst (.bl false))) nextS)
  (T_law_11 c))
noncomputable def T_law_13 (c : Cs) : List Sl → SO :=
  (seqS (asgS (frzD (callE (f__law_text c) (consA (name 3) (consA (name 10) (consA (frzD (sliceE (name 5) (partO (name 15)) partN)) nilA))))) (tupG 2 (consG (putG 17) (consG (putG 18) nilG))))
  (T_law_12 c))
noncomputable def T_law_14 (c : Cs) : List Sl → SO :=
  (seqS (asgS (frzD (callE (f__law_text c) (consA (name 3) (consA (useA tupD (consA (frzD (use2 ixDD (name 3) (konst (.str "first")))) nilA)) (consA (frzD (sliceE (name 5) partN (partO (name 15)))) nilA))))) (tupG 2 (consG (putG 16) (consG (putG 10) nilG))))
  (T_law_13 c))
noncomputable def T_law_15 (c : Cs) : List Sl → SO :=
  (seqS (setS 15 (callE (f__law_take c) (consA (name 1) (consA (frzD (use2 addD (useA lenD (consA (name 5) nilA)) (konst (.int 1)))) nilA))))
  (T_law_14 c))
noncomputable def T_law_16 (c : Cs) : List Sl → SO :=
  (seqS (ifS (isB (use2 neDD (callE (f_painted c) (consA (name 4) (consA (name 5) (consA (name 14) nilA)))) (T_law_9 c))) (retS (konst (.bl false))) nextS)
  (T_law_15 c))
noncomputable def T_law_17 (c : Cs) : List Sl → SO :=
  (seqS (setS 14 (prsE [((konst (.str "red")), (konst (.str "r"))), ((konst (.str "dim")), (konst (.str "d")))] []))
  (T_law_16 c))
noncomputable def T_law_18 (c : Cs) : List Sl → SO :=
  (seqS (ifS (isB (use2 neDD (callE (f_write_spans c) (consA (name 4) (consA (name 5) nilA))) (use1 (joinD "\n") (name 13)))) (retS (konst (.bl false))) nextS)
  (T_law_17 c))
noncomputable def T_law_19 (c : Cs) : List Sl → SO :=
  (seqS (forS (anyI (nameFD 6)) (tupG 2 (consG (putG 10) (consG (putG 11) nilG))) (T_law_7 c))
  (T_law_18 c))
noncomputable def T_law_20 (c : Cs) : List Sl → SO :=
  (seqS (setS 13 (useA lstD nilA))
  (T_law_19 c))
noncomputable def T_law_21 (c : Cs) : List Sl → SO :=
  (seqS (forS (enumI2 (nameFD 5)) (tupG 2 (consG (putG 8) (consG (putG 9) nilG))) (T_law_5 c))
  (T_law_20 c))
noncomputable def T_law_22 (c : Cs) : List Sl → SO :=
  (seqS (ifS (orB (isB (use2 neDD (callE (f_colour_text c) (consA (name 4) (consA (name 5) nilA))) (name 6))) (orB (isB (use2 neDD (callE (f_colour_text c) (consA (name 4) (consA (frzD (useA tupC (consA (name 5) nilA))) nilA))) (name 6))) (isB (use2 neDD (callE (f_colour_text c) (consA (name 4) (consA (frzD (useA lstD nilA)) nilA))) (useA lstD nilA))))) (retS (konst (.bl false))) nextS)
  (T_law_21 c))
noncomputable def T_law_23 (c : Cs) : List Sl → SO :=
  (seqS (asgS (frzD (callE (f__law_text c) (consA (name 3) (consA (useA tupD (consA (frzD (use2 ixDD (name 3) (konst (.str "first")))) nilA)) (consA (name 5) nilA))))) (tupG 2 (consG (putG 6) (consG (putG 7) nilG))))
  (T_law_22 c))
noncomputable def T_law_24 (c : Cs) : List Sl → SO :=
  (seqS (parS 4 5 (consA (callE (f__law_book c) (consA (name 3) nilA)) (consA (callE (f__law_lines c) (consA (name 1) (consA (name 2) (consA (konst (.int 8)) (consA (konst (.int 9)) nilA))))) nilA)))
  (T_law_23 c))
noncomputable def T_law_25 (c : Cs) : List Sl → SO :=
  (seqS (setS 3 (callE (f__law_told c) (consA (name 1) (consA (name 2) nilA))))
  (T_law_24 c))
noncomputable def T_law_26 (c : Cs) : List Sl → SO :=
  (seqS (setS 2 (callE (f__law_pick c) (consA (name 1) (consA (frzD (useA lstD (consA (konst (.str "ab")) (consA (konst (.str "abc")) (consA (konst (.str "ab(")) nilA))))) nilA))))
  (T_law_25 c))
noncomputable def T_law_27 (c : Cs) : List Sl → SO :=
  (seqS (setS 1 (useA lstD (consA (nameFD 0) (consA (konst (.int 0)) nilA))))
  (T_law_26 c))
noncomputable def T_law (c : Cs) : List Sl → SO :=
  (T_law_27 c)
noncomputable def f_law (c : Cs) : List (M × D) → FO := bodyF 26 (T_law c)
theorem ok_law (Fa : Facts K mg c) : FnOk P w K mg base (L2.CX P w) 8 Fa.a_law Fa.fd_law ["script"] (spF K 1 (f_law c)) := by
  refine fn_okF (N := N_law) (T := T_law c) Fa.F_law sc_law fun cdv A outer s H E hr => ?_
  have hu := Room.u64 hr
  unfold T_law T_law_27 T_law_26 T_law_25 T_law_24 T_law_23 T_law_22 T_law_21 T_law_20 T_law_19 T_law_18 T_law_17 T_law_16 T_law_15 T_law_14 T_law_13 T_law_12 T_law_11 T_law_10 T_law_9 T_law_8 T_law_7 T_law_6 T_law_5 T_law_4 T_law_3 T_law_2 T_law_1
  exact (fss_cons (fs_set sc_law.nd rfl (by first | exact Or.inl rfl | exact Or.inr rfl) (fe_lst (fa_cons (fe_nameFD (pv 0)) (fa_cons fe_int fa_nil))))
  (fss_cons (fs_set sc_law.nd rfl (by first | exact Or.inl rfl | exact Or.inr rfl) (fe_call (ok__law_pick Fa) (hr.mono (by decide)) rfl Fa.g__law_pick Fa.F__law_pick.kp Fa.b__law_pick (takes_of rfl rfl rfl rfl) (fa_cons (fe_name (pv 1)) (fa_cons (fe_frzD (fe_lst (fa_cons fe_str (fa_cons fe_str (fa_cons fe_str fa_nil))))) fa_nil)) (len_cons (len_cons len_nil))))
  (fss_cons (fs_set sc_law.nd rfl (by first | exact Or.inl rfl | exact Or.inr rfl) (fe_call (ok__law_told Fa) (hr.mono (by decide)) rfl Fa.g__law_told Fa.F__law_told.kp Fa.b__law_told (takes_of rfl rfl rfl rfl) (fa_cons (fe_name (pv 1)) (fa_cons (fe_name (pv 2)) fa_nil)) (len_cons (len_cons len_nil))))
  (fss_cons (fs_par rfl sc_law.nd rfl rfl (by decide) rfl rfl (fa_cons (fe_call (ok__law_book Fa) (hr.mono (by decide)) rfl Fa.g__law_book Fa.F__law_book.kp Fa.b__law_book (takes_of rfl rfl rfl rfl) (fa_cons (fe_name (pv 3)) fa_nil) (len_cons len_nil)) (fa_cons (fe_call (ok__law_lines Fa) (hr.mono (by decide)) rfl Fa.g__law_lines Fa.F__law_lines.kp Fa.b__law_lines (takes_of rfl rfl rfl rfl) (fa_cons (fe_name (pv 1)) (fa_cons (fe_name (pv 2)) (fa_cons fe_int (fa_cons fe_int fa_nil)))) (len_cons (len_cons (len_cons (len_cons len_nil))))) fa_nil)) rfl)
  (fss_cons (fs_asg (fe_frzD (fe_call (ok__law_text Fa) (hr.mono (by decide)) rfl Fa.g__law_text Fa.F__law_text.kp Fa.b__law_text (takes_of rfl rfl rfl rfl) (fa_cons (fe_name (pv 3)) (fa_cons (fe_tup (fa_cons (fe_frzD (fe_ix hu (fe_name (pv 3)) fe_str)) fa_nil)) (fa_cons (fe_name (pv 5)) fa_nil))) (len_cons (len_cons (len_cons len_nil))))) (fg_tup (n := 2) rfl (fgs_cons (fg_name (i := 6) sc_law.nd rfl (by first | exact Or.inl rfl | exact Or.inr rfl)) (fgs_cons (fg_name (i := 7) sc_law.nd rfl (by first | exact Or.inl rfl | exact Or.inr rfl)) fgs_nil))))
  (fss_cons (fs_if (FW.ft (fw_or (ft_cmpF (c_ne hu) (fe_call (ok_colour_text Fa) (hr.mono (by decide)) rfl Fa.g_colour_text Fa.F_colour_text.kp Fa.b_colour_text (takes_of rfl rfl rfl rfl) (fa_cons (fe_name (pv 4)) (fa_cons (fe_name (pv 5)) fa_nil)) (len_cons (len_cons len_nil))) (fe_name (pv 6))) (fw_or (ft_cmpF (c_ne hu) (fe_call (ok_colour_text Fa) (hr.mono (by decide)) rfl Fa.g_colour_text Fa.F_colour_text.kp Fa.b_colour_text (takes_of rfl rfl rfl rfl) (fa_cons (fe_name (pv 4)) (fa_cons (fe_frzD (fe_callTy b_tuple rfl Fa.n_tuple boot_tuple (fa_cons (fe_name (pv 5)) fa_nil))) fa_nil)) (len_cons (len_cons len_nil))) (fe_name (pv 6))) (fw_or1 (ft_cmpF (c_ne hu) (fe_call (ok_colour_text Fa) (hr.mono (by decide)) rfl Fa.g_colour_text Fa.F_colour_text.kp Fa.b_colour_text (takes_of rfl rfl rfl rfl) (fa_cons (fe_name (pv 4)) (fa_cons (fe_frzD (fe_lst fa_nil)) fa_nil)) (len_cons (len_cons len_nil))) (fe_lst fa_nil)))))) (fss_one (fs_ret fe_bl)) fss_nil)
  (fss_cons (fs_for (passes_of rfl) rfl (fi_enum2 rfl Fa.n_enumerate (fe_nameFD (pv 5))) (fg_tup (n := 2) rfl (fgs_cons (fg_name (i := 8) sc_law.nd rfl (by first | exact Or.inl rfl | exact Or.inr rfl)) (fgs_cons (fg_name (i := 9) sc_law.nd rfl (by first | exact Or.inl rfl | exact Or.inr rfl)) fgs_nil))) (fss_cons (fs_asg (fe_frzD (fe_ix hu (fe_name (pv 6)) (fe_name (pv 8)))) (fg_tup (n := 2) rfl (fgs_cons (fg_name (i := 10) sc_law.nd rfl (by first | exact Or.inl rfl | exact Or.inr rfl)) (fgs_cons (fg_name (i := 11) sc_law.nd rfl (by first | exact Or.inl rfl | exact Or.inr rfl)) fgs_nil))))
  (fss_cons (fs_if (FW.ft (fw_or (ft_cmpF (c_ne hu) (fe_call (ok_colour_line Fa) (hr.mono (by decide)) rfl Fa.g_colour_line Fa.F_colour_line.kp Fa.b_colour_line (takes_of rfl rfl rfl rfl) (fa_cons (fe_name (pv 4)) (fa_cons (fe_name (pv 10)) (fa_cons (fe_name (pv 9)) fa_nil))) (len_cons (len_cons (len_cons len_nil)))) (fe_call (ok__law_line Fa) (hr.mono (by decide)) rfl Fa.g__law_line Fa.F__law_line.kp Fa.b__law_line (takes_of rfl rfl rfl rfl) (fa_cons (fe_name (pv 3)) (fa_cons (fe_name (pv 10)) (fa_cons (fe_name (pv 9)) fa_nil))) (len_cons (len_cons (len_cons len_nil))))) (fw_or1 (ft_cmpF (c_ne hu) (fe_callB b_len rfl Fa.n_len boot_len (fa_cons (fe_name (pv 11)) fa_nil)) (fe_callB b_len rfl Fa.n_len boot_len (fa_cons (fe_name (pv 9)) fa_nil)))))) (fss_one (fs_ret fe_bl)) fss_nil)
  (fss_cons (fs_set sc_law.nd rfl (by first | exact Or.inl rfl | exact Or.inr rfl) (fe_call (ok_spans Fa) (hr.mono (by decide)) rfl Fa.g_spans Fa.F_spans.kp Fa.b_spans (takes_of rfl rfl rfl rfl) (fa_cons (fe_name (pv 11)) fa_nil) (len_cons len_nil)))
  (fss_cons (fs_if (ft_cmpF (c_ne hu) (fe_call (ok__law_spread Fa) (hr.mono (by decide)) rfl Fa.g__law_spread Fa.F__law_spread.kp Fa.b__law_spread (takes_of rfl rfl rfl rfl) (fa_cons (fe_name (pv 12)) fa_nil) (len_cons len_nil)) (fe_callTy (b_list rfl) rfl Fa.n_list boot_list (fa_cons (fe_name (pv 11)) fa_nil))) (fss_one (fs_ret fe_bl)) fss_nil)
  (fss_one (fs_if (FW.ft (fw_or (ft_val (fe_callB (b_any rfl) rfl Fa.n_any boot_any (fa_cons (fe_lc (own := [("one", 22), ("other", 23)]) rfl sc_law.nd (fi_zip rfl Fa.n_zip (fa_cons (fe_nameFD (pv 12)) (fa_cons (fe_frzD (fe_slice (fe_name (pv 12)) (fp_some fe_int) fp_none)) fa_nil))) (blkOk_by (by first | rfl | decide +kernel | with_unfolding_all rfl)) (fun _ _ _ _ _ => (fg_tup (n := 2) rfl (fgs_cons (fg_name (i := 22) sc_law.nd rfl (by first | exact Or.inl rfl | exact Or.inr rfl)) (fgs_cons (fg_name (i := 23) sc_law.nd rfl (by first | exact Or.inl rfl | exact Or.inr rfl)) fgs_nil)))) (fun _ _ _ _ _ => fts_nil) (fun _ _ _ _ _ => (fe_or (fe_cmp (c_ne hu) (fe_add (fe_ix hu (fe_name (pv 22)) fe_int) fe_int) (fe_ix hu (fe_name (pv 23)) fe_int)) (fe_one (fe_cmp (c_eq hu) (fe_ix hu (fe_name (pv 22)) fe_int) (fe_ix hu (fe_name (pv 23)) fe_int)))))) fa_nil))) (fw_or1 (FW.ft (fw_and (ft_cmpF (c_ne hu) (fe_name (pv 12)) (fe_lst fa_nil)) (fw_and1 (ft_cmpF (c_ne hu) (fe_ix hu (fe_ix hu (fe_name (pv 12)) fe_int) fe_int) fe_int))))))) (fss_one (fs_ret fe_bl)) fss_nil)))))))
  (fss_cons (fs_set sc_law.nd rfl (by first | exact Or.inl rfl | exact Or.inr rfl) (fe_lst fa_nil))
  (fss_cons (fs_for (passes_of rfl) rfl (fi_any (fe_nameFD (pv 6))) (fg_tup (n := 2) rfl (fgs_cons (fg_name (i := 10) sc_law.nd rfl (by first | exact Or.inl rfl | exact Or.inr rfl)) (fgs_cons (fg_name (i := 11) sc_law.nd rfl (by first | exact Or.inl rfl | exact Or.inr rfl)) fgs_nil))) (fss_cons (fs_setLc (own := [("first", 24), ("end", 18), ("colour", 25)]) rfl sc_law.nd rfl rfl (sw_true rfl rfl rfl (by decide +kernel)) (fi_any (fe_frzD (fe_call (ok_spans Fa) (hr.mono (by decide)) rfl Fa.g_spans Fa.F_spans.kp Fa.b_spans (takes_of rfl rfl rfl rfl) (fa_cons (fe_name (pv 11)) fa_nil) (len_cons len_nil)))) (blkOk_by (by first | rfl | decide +kernel | with_unfolding_all rfl)) (fun _ _ _ _ _ => (fg_tup (n := 3) rfl (fgs_cons (fg_name (i := 24) sc_law.nd rfl (by first | exact Or.inl rfl | exact Or.inr rfl)) (fgs_cons (fg_name (i := 18) sc_law.nd rfl (by first | exact Or.inl rfl | exact Or.inr rfl)) (fgs_cons (fg_name (i := 25) sc_law.nd rfl (by first | exact Or.inl rfl | exact Or.inr rfl)) fgs_nil))))) (fun _ _ _ _ _ => fts_nil) (fun _ _ _ _ _ => (fe_frzD (fe_add (fe_add (fe_add (fe_add (fe_callTy b_str rfl Fa.n_str boot_str (fa_cons (fe_name (pv 24)) fa_nil)) fe_str) (fe_callTy b_str rfl Fa.n_str boot_str (fa_cons (fe_name (pv 18)) fa_nil))) fe_str) (fe_name (pv 25))))))
  (fss_one (fs_expr (fe_append (pv 13) (fe_if (ft_cmpF (c_ne hu) (fe_name (pv 12)) (fe_lst fa_nil)) (fe_frzD (fe_join pe_str (fe_name (pv 12)))) fe_str))))))
  (fss_cons (fs_if (ft_cmpF (c_ne hu) (fe_call (ok_write_spans Fa) (hr.mono (by decide)) rfl Fa.g_write_spans Fa.F_write_spans.kp Fa.b_write_spans (takes_of rfl rfl rfl rfl) (fa_cons (fe_name (pv 4)) (fa_cons (fe_name (pv 5)) fa_nil)) (len_cons (len_cons len_nil))) (fe_join pe_str (fe_name (pv 13)))) (fss_one (fs_ret fe_bl)) fss_nil)
  (fss_cons (fs_set sc_law.nd rfl (by first | exact Or.inl rfl | exact Or.inr rfl) (fe_disp (fps_cons fe_str fe_str (fps_cons fe_str fe_str fps_nil))))
  (fss_cons (fs_if (ft_cmpF (c_ne hu) (fe_call (ok_painted Fa) (hr.mono (by decide)) rfl Fa.g_painted Fa.F_painted.kp Fa.b_painted (takes_of rfl rfl rfl rfl) (fa_cons (fe_name (pv 4)) (fa_cons (fe_name (pv 5)) (fa_cons (fe_name (pv 14)) fa_nil))) (len_cons (len_cons (len_cons len_nil)))) (fe_lc (own := [("stack", 10), ("colours", 11)]) rfl sc_law.nd (fi_any (fe_nameFD (pv 6))) (blkOk_by (by first | rfl | decide +kernel | with_unfolding_all rfl)) (fun _ _ _ _ _ => (fg_tup (n := 2) rfl (fgs_cons (fg_name (i := 10) sc_law.nd rfl (by first | exact Or.inl rfl | exact Or.inr rfl)) (fgs_cons (fg_name (i := 11) sc_law.nd rfl (by first | exact Or.inl rfl | exact Or.inr rfl)) fgs_nil)))) (fun _ _ _ _ _ => fts_nil) (fun _ _ _ _ _ => (fe_frzD (fe_join pe_str (fe_lc (own := [("colour", 25)]) rfl sc_law.nd (fi_any (fe_nameFD (pv 11))) (blkOk_by (by first | rfl | decide +kernel | with_unfolding_all rfl)) (fun _ _ _ _ _ => (fg_name (i := 25) sc_law.nd rfl (by first | exact Or.inl rfl | exact Or.inr rfl))) (fun _ _ _ _ _ => fts_nil) (fun _ _ _ _ _ => (fe_frzD (fe_get hu (fe_name (pv 14)) (fe_nameFD (pv 25)) fe_str ⟨rfl, rfl, rfl, rfl⟩))))))))) (fss_one (fs_ret fe_bl)) fss_nil)
  (fss_cons (fs_set sc_law.nd rfl (by first | exact Or.inl rfl | exact Or.inr rfl) (fe_call (ok__law_take Fa) (hr.mono (by decide)) rfl Fa.g__law_take Fa.F__law_take.kp Fa.b__law_take (takes_of rfl rfl rfl rfl) (fa_cons (fe_name (pv 1)) (fa_cons (fe_frzD (fe_add (fe_callB b_len rfl Fa.n_len boot_len (fa_cons (fe_name (pv 5)) fa_nil)) fe_int)) fa_nil)) (len_cons (len_cons len_nil))))
  (fss_cons (fs_asg (fe_frzD (fe_call (ok__law_text Fa) (hr.mono (by decide)) rfl Fa.g__law_text Fa.F__law_text.kp Fa.b__law_text (takes_of rfl rfl rfl rfl) (fa_cons (fe_name (pv 3)) (fa_cons (fe_tup (fa_cons (fe_frzD (fe_ix hu (fe_name (pv 3)) fe_str)) fa_nil)) (fa_cons (fe_frzD (fe_slice (fe_name (pv 5)) fp_none (fp_some (fe_name (pv 15))))) fa_nil))) (len_cons (len_cons (len_cons len_nil))))) (fg_tup (n := 2) rfl (fgs_cons (fg_name (i := 16) sc_law.nd rfl (by first | exact Or.inl rfl | exact Or.inr rfl)) (fgs_cons (fg_name (i := 10) sc_law.nd rfl (by first | exact Or.inl rfl | exact Or.inr rfl)) fgs_nil))))
  (fss_cons (fs_asg (fe_frzD (fe_call (ok__law_text Fa) (hr.mono (by decide)) rfl Fa.g__law_text Fa.F__law_text.kp Fa.b__law_text (takes_of rfl rfl rfl rfl) (fa_cons (fe_name (pv 3)) (fa_cons (fe_name (pv 10)) (fa_cons (fe_frzD (fe_slice (fe_name (pv 5)) (fp_some (fe_name (pv 15))) fp_none)) fa_nil))) (len_cons (len_cons (len_cons len_nil))))) (fg_tup (n := 2) rfl (fgs_cons (fg_name (i := 17) sc_law.nd rfl (by first | exact Or.inl rfl | exact Or.inr rfl)) (fgs_cons (fg_name (i := 18) sc_law.nd rfl (by first | exact Or.inl rfl | exact Or.inr rfl)) fgs_nil))))
  (fss_cons (fs_if (FW.ft (fw_or (ft_cmpF (c_ne hu) (fe_add (fe_name (pv 16)) (fe_name (pv 17))) (fe_name (pv 6))) (fw_or1 (ft_cmpF (c_ne hu) (fe_name (pv 18)) (fe_name (pv 7)))))) (fss_one (fs_ret fe_bl)) fss_nil)
  (fss_cons (fs_asg (fe_frzD (fe_call (ok__law_pick Fa) (hr.mono (by decide)) rfl Fa.g__law_pick Fa.F__law_pick.kp Fa.b__law_pick (takes_of rfl rfl rfl rfl) (fa_cons (fe_name (pv 1)) (fa_cons (fe_frzD (fe_lst (fa_cons (fe_tup (fa_cons fe_non (fa_cons fe_non fa_nil))) (fa_cons (fe_tup (fa_cons (fe_frzD (fe_add (fe_name (pv 5)) (fe_lst (fa_cons fe_str fa_nil)))) (fa_cons (fe_frzD (fe_callB b_len rfl Fa.n_len boot_len (fa_cons (fe_name (pv 5)) fa_nil))) fa_nil))) (fa_cons (fe_tup (fa_cons (fe_frzD (fe_add (fe_name (pv 5)) (fe_lst (fa_cons fe_non fa_nil)))) (fa_cons (fe_frzD (fe_callB b_len rfl Fa.n_len boot_len (fa_cons (fe_name (pv 5)) fa_nil))) fa_nil))) (fa_cons (fe_tup (fa_cons (fe_frzD (fe_mul (fe_lst (fa_cons fe_str fa_nil)) fe_int)) (fa_cons fe_non fa_nil))) (fa_cons (fe_tup (fa_cons (fe_frzD (fe_lst (fa_cons (fe_frzD (fe_mul (fe_ix hu (fe_name (pv 2)) fe_int) fe_int)) fa_nil))) (fa_cons fe_int fa_nil))) fa_nil))))))) fa_nil)) (len_cons (len_cons len_nil)))) (fg_tup (n := 2) rfl (fgs_cons (fg_name (i := 19) sc_law.nd rfl (by first | exact Or.inl rfl | exact Or.inr rfl)) (fgs_cons (fg_name (i := 20) sc_law.nd rfl (by first | exact Or.inl rfl | exact Or.inr rfl)) fgs_nil))))
  (fss_one (fs_try rfl rfl sc_law.nd rfl rfl ⟨rfl, by decide, .inl Fa.g_BadText⟩ (takes_of rfl rfl rfl rfl) Fa.exm_BadText (fun W pn xe tk hp => (fss_cons (fs_expr (fe_call (ok_colour_text Fa) (hr.mono (by decide)) rfl Fa.g_colour_text Fa.F_colour_text.kp Fa.b_colour_text tk (fa_cons (fe_name (pv 4)) (fa_cons (fe_name (pv 19)) fa_nil)) (len_cons (len_cons len_nil))))
  (fss_one (fs_ret fe_bl)))) (fun a d C oe pn hz hv => (fss_one (fs_ret (fe_cmp (c_eq hu) (fe_excF Fa.xfld_number hz hv (pv 21)) (fe_name (pv 20)))))))))))))))))))))))))

end
end K02

namespace K02
open PySem PySem.Spec PyProof.Rows L2 FL
theorem all_mk {P : Program} {w : World} {K : PySem.W.Frag} {h : Heap} {mg : Str → Option Value} {fa C_BadBook C_BadText C_BadName C_Book : Addr} {tk_FIGURES tk_LETTERS tk_MOST_DEEP tk_MOST_LINES tk_MOST_LONG tk_MOST_MODES tk_MOST_NEXTS tk_MOST_ROWS tk_MOST_SIGNS : _} (X : K.In h) (G : h.Ns mainGlobals mg) (hfa : mg "law" = some (.ref fa))
    (c_Book : ClsG K mg "Book" C_Book)
    (no_Book_deep : PySem.W.findIn K (.ref C_Book) "deep" = some none)
    (no_Book_first : PySem.W.findIn K (.ref C_Book) "first" = some none)
    (no_Book_modes : PySem.W.findIn K (.ref C_Book) "modes" = some none)
    (no_Book_signs : PySem.W.findIn K (.ref C_Book) "signs" = some none)
    (c_BadBook : ExcG K mg "BadBook" C_BadBook)
    (no_BadBook_part : PySem.W.findIn K (.ref C_BadBook) "part" = some none)
    (no_BadBook_mode : PySem.W.findIn K (.ref C_BadBook) "mode" = some none)
    (no_BadBook_number : PySem.W.findIn K (.ref C_BadBook) "number" = some none)
    (c_BadText : ExcG K mg "BadText" C_BadText)
    (no_BadText_number : PySem.W.findIn K (.ref C_BadText) "number" = some none)
    (c_BadName : ExcG K mg "BadName" C_BadName)
    (no_BadName_name : PySem.W.findIn K (.ref C_BadName) "name" = some none)
    (hc_BadText : PySem.W.isClsIn K C_BadText = true)
    (xm_BadText_BadBook : PySem.W.subIn K (.ref C_BadBook) (.ref C_BadText) = some false)
    (xm_BadText_BadText : PySem.W.subIn K (.ref C_BadText) (.ref C_BadText) = some true)
    (xm_BadText_BadName : PySem.W.subIn K (.ref C_BadName) (.ref C_BadText) = some false)
    (d__law_number : DefG K mg "_law_number" "_law_number" s__law_number)
    (d__law_take : DefG K mg "_law_take" "_law_take" s__law_take)
    (d__law_pick : DefG K mg "_law_pick" "_law_pick" s__law_pick)
    (d__law_deed : DefG K mg "_law_deed" "_law_deed" s__law_deed)
    (d__law_told : DefG K mg "_law_told" "_law_told" s__law_told)
    (d__law_row : DefG K mg "_law_row" "_law_row" s__law_row)
    (d__law_done : DefG K mg "_law_done" "_law_done" s__law_done)
    (d__law_line : DefG K mg "_law_line" "_law_line" s__law_line)
    (d__law_text : DefG K mg "_law_text" "_law_text" s__law_text)
    (d_BadBook___init__ : InitXG K C_BadBook "BadBook.__init__" s_BadBook___init__)
    (d_is_row : DefG K mg "is_row" "is_row" s_is_row)
    (d_is_name : DefG K mg "is_name" "is_name" s_is_name)
    (d_is_deed : DefG K mg "is_deed" "is_deed" s_is_deed)
    (d_are_signs : DefG K mg "are_signs" "are_signs" s_are_signs)
    (d_are_nexts : DefG K mg "are_nexts" "are_nexts" s_are_nexts)
    (d_check_mode : DefG K mg "check_mode" "check_mode" s_check_mode)
    (d_kept : DefG K mg "kept" "kept" s_kept)
    (d_is_number : DefG K mg "is_number" "is_number" s_is_number)
    (d_Book___init__ : InitG K C_Book "Book.__init__" s_Book___init__)
    (d__law_book : DefG K mg "_law_book" "_law_book" s__law_book)
    (d__law_signs : DefG K mg "_law_signs" "_law_signs" s__law_signs)
    (d__law_lines : DefG K mg "_law_lines" "_law_lines" s__law_lines)
    (d_spans : DefG K mg "spans" "spans" s_spans)
    (d_check_book : DefG K mg "check_book" "check_book" s_check_book)
    (d_BadText___init__ : InitXG K C_BadText "BadText.__init__" s_BadText___init__)
    (d_is_line : DefG K mg "is_line" "is_line" s_is_line)
    (d_check_lines : DefG K mg "check_lines" "check_lines" s_check_lines)
    (d_Book_row : MethG K C_Book "row" "Book.row" s_Book_row)
    (d_Book_done : MethG K C_Book "done" "Book.done" s_Book_done)
    (d_Book_step : MethG K C_Book "step" "Book.step" s_Book_step)
    (d_Book_ended : MethG K C_Book "ended" "Book.ended" s_Book_ended)
    (d_coloured : DefG K mg "coloured" "coloured" s_coloured)
    (d_colour_text : DefG K mg "colour_text" "colour_text" s_colour_text)
    (d_write_spans : DefG K mg "write_spans" "write_spans" s_write_spans)
    (d_BadName___init__ : InitXG K C_BadName "BadName.__init__" s_BadName___init__)
    (d_is_paint : DefG K mg "is_paint" "is_paint" s_is_paint)
    (d_painted : DefG K mg "painted" "painted" s_painted)
    (d__law_spread : DefG K mg "_law_spread" "_law_spread" s__law_spread)
    (d_is_mode : DefG K mg "is_mode" "is_mode" s_is_mode)
    (d_is_stack : DefG K mg "is_stack" "is_stack" s_is_stack)
    (d_check_stack : DefG K mg "check_stack" "check_stack" s_check_stack)
    (d_colour_line : DefG K mg "colour_line" "colour_line" s_colour_line)
    (d_law : DefG K mg "law" "law" s_law)
    (g_FIGURES : PySem.W.nsIn K mainGlobals "FIGURES" = some (some (.str "0123456789" tk_FIGURES)))
    (g_LETTERS : PySem.W.nsIn K mainGlobals "LETTERS" = some (some (.str "abcdefghijklmnopqrstuvwxyz" tk_LETTERS)))
    (g_MOST_DEEP : PySem.W.nsIn K mainGlobals "MOST_DEEP" = some (some (.int 4 tk_MOST_DEEP)))
    (g_MOST_LINES : PySem.W.nsIn K mainGlobals "MOST_LINES" = some (some (.int 64 tk_MOST_LINES)))
    (g_MOST_LONG : PySem.W.nsIn K mainGlobals "MOST_LONG" = some (some (.int 80 tk_MOST_LONG)))
    (g_MOST_MODES : PySem.W.nsIn K mainGlobals "MOST_MODES" = some (some (.int 4 tk_MOST_MODES)))
    (g_MOST_NEXTS : PySem.W.nsIn K mainGlobals "MOST_NEXTS" = some (some (.int 12 tk_MOST_NEXTS)))
    (g_MOST_ROWS : PySem.W.nsIn K mainGlobals "MOST_ROWS" = some (some (.int 8 tk_MOST_ROWS)))
    (g_MOST_SIGNS : PySem.W.nsIn K mainGlobals "MOST_SIGNS" = some (some (.int 6 tk_MOST_SIGNS)))
    (n_all : PySem.W.nsIn K mainGlobals "all" = some none)
    (n_any : PySem.W.nsIn K mainGlobals "any" = some none)
    (n_bool : PySem.W.nsIn K mainGlobals "bool" = some none)
    (n_dict : PySem.W.nsIn K mainGlobals "dict" = some none)
    (n_enumerate : PySem.W.nsIn K mainGlobals "enumerate" = some none)
    (n_int : PySem.W.nsIn K mainGlobals "int" = some none)
    (n_isinstance : PySem.W.nsIn K mainGlobals "isinstance" = some none)
    (n_len : PySem.W.nsIn K mainGlobals "len" = some none)
    (n_list : PySem.W.nsIn K mainGlobals "list" = some none)
    (n_range : PySem.W.nsIn K mainGlobals "range" = some none)
    (n_sorted : PySem.W.nsIn K mainGlobals "sorted" = some none)
    (n_str : PySem.W.nsIn K mainGlobals "str" = some none)
    (n_tuple : PySem.W.nsIn K mainGlobals "tuple" = some none)
    (n_zip : PySem.W.nsIn K mainGlobals "zip" = some none) :
    ∃ fd : FuncData, (∀ (s : Shared) (u : Value), BindsTo s fd ⟨[u], []⟩ [("script", u)]) ∧ ∀ base : Heap, K.In base → base.Ns mainGlobals mg → FnOk P w K mg base (L2.CX P w) 8 fa fd ["script"] (spF K 1 (f_law ⟨C_BadBook, C_BadText, C_BadName, C_Book⟩)) := by
  obtain ⟨a__law_number, fd__law_number, g__law_number, F__law_number⟩ := d__law_number.ex
  obtain ⟨a__law_take, fd__law_take, g__law_take, F__law_take⟩ := d__law_take.ex
  obtain ⟨a__law_pick, fd__law_pick, g__law_pick, F__law_pick⟩ := d__law_pick.ex
  obtain ⟨a__law_deed, fd__law_deed, g__law_deed, F__law_deed⟩ := d__law_deed.ex
  obtain ⟨a__law_told, fd__law_told, g__law_told, F__law_told⟩ := d__law_told.ex
  obtain ⟨a__law_row, fd__law_row, g__law_row, F__law_row⟩ := d__law_row.ex
  obtain ⟨a__law_done, fd__law_done, g__law_done, F__law_done⟩ := d__law_done.ex
  obtain ⟨a__law_line, fd__law_line, g__law_line, F__law_line⟩ := d__law_line.ex
  obtain ⟨a__law_text, fd__law_text, g__law_text, F__law_text⟩ := d__law_text.ex
  obtain ⟨a_BadBook___init__, fd_BadBook___init__, ini_BadBook, typ_BadBook, F_BadBook___init__⟩ := d_BadBook___init__.ex
  obtain ⟨a_is_row, fd_is_row, g_is_row, F_is_row⟩ := d_is_row.ex
  obtain ⟨a_is_name, fd_is_name, g_is_name, F_is_name⟩ := d_is_name.ex
  obtain ⟨a_is_deed, fd_is_deed, g_is_deed, F_is_deed⟩ := d_is_deed.ex
  obtain ⟨a_are_signs, fd_are_signs, g_are_signs, F_are_signs⟩ := d_are_signs.ex
  obtain ⟨a_are_nexts, fd_are_nexts, g_are_nexts, F_are_nexts⟩ := d_are_nexts.ex
  obtain ⟨a_check_mode, fd_check_mode, g_check_mode, F_check_mode⟩ := d_check_mode.ex
  obtain ⟨a_kept, fd_kept, g_kept, F_kept⟩ := d_kept.ex
  obtain ⟨a_is_number, fd_is_number, g_is_number, F_is_number⟩ := d_is_number.ex
  obtain ⟨a_Book___init__, fd_Book___init__, mk_Book, F_Book___init__⟩ := d_Book___init__.ex
  obtain ⟨a__law_book, fd__law_book, g__law_book, F__law_book⟩ := d__law_book.ex
  obtain ⟨a__law_signs, fd__law_signs, g__law_signs, F__law_signs⟩ := d__law_signs.ex
  obtain ⟨a__law_lines, fd__law_lines, g__law_lines, F__law_lines⟩ := d__law_lines.ex
  obtain ⟨a_spans, fd_spans, g_spans, F_spans⟩ := d_spans.ex
  obtain ⟨a_check_book, fd_check_book, g_check_book, F_check_book⟩ := d_check_book.ex
  obtain ⟨a_BadText___init__, fd_BadText___init__, ini_BadText, typ_BadText, F_BadText___init__⟩ := d_BadText___init__.ex
  obtain ⟨a_is_line, fd_is_line, g_is_line, F_is_line⟩ := d_is_line.ex
  obtain ⟨a_check_lines, fd_check_lines, g_check_lines, F_check_lines⟩ := d_check_lines.ex
  obtain ⟨a_Book_row, fd_Book_row, m_Book_row, F_Book_row⟩ := d_Book_row.ex
  obtain ⟨a_Book_done, fd_Book_done, m_Book_done, F_Book_done⟩ := d_Book_done.ex
  obtain ⟨a_Book_step, fd_Book_step, m_Book_step, F_Book_step⟩ := d_Book_step.ex
  obtain ⟨a_Book_ended, fd_Book_ended, m_Book_ended, F_Book_ended⟩ := d_Book_ended.ex
  obtain ⟨a_coloured, fd_coloured, g_coloured, F_coloured⟩ := d_coloured.ex
  obtain ⟨a_colour_text, fd_colour_text, g_colour_text, F_colour_text⟩ := d_colour_text.ex
  obtain ⟨a_write_spans, fd_write_spans, g_write_spans, F_write_spans⟩ := d_write_spans.ex
  obtain ⟨a_BadName___init__, fd_BadName___init__, ini_BadName, typ_BadName, F_BadName___init__⟩ := d_BadName___init__.ex
  obtain ⟨a_is_paint, fd_is_paint, g_is_paint, F_is_paint⟩ := d_is_paint.ex
  obtain ⟨a_painted, fd_painted, g_painted, F_painted⟩ := d_painted.ex
  obtain ⟨a__law_spread, fd__law_spread, g__law_spread, F__law_spread⟩ := d__law_spread.ex
  obtain ⟨a_is_mode, fd_is_mode, g_is_mode, F_is_mode⟩ := d_is_mode.ex
  obtain ⟨a_is_stack, fd_is_stack, g_is_stack, F_is_stack⟩ := d_is_stack.ex
  obtain ⟨a_check_stack, fd_check_stack, g_check_stack, F_check_stack⟩ := d_check_stack.ex
  obtain ⟨a_colour_line, fd_colour_line, g_colour_line, F_colour_line⟩ := d_colour_line.ex
  obtain ⟨a_law, fd_law, g_law, F_law⟩ := d_law.ex
  have e : a_law = fa := by
    have e := hfa.symm.trans g_law
    cases e
    rfl
  have Fa : ∃ Fa : Facts K mg (⟨C_BadBook, C_BadText, C_BadName, C_Book⟩ : Cs), Fa.a_law = fa := ⟨{
    g_Book := c_Book.g,
    cls_Book := c_Book.cl,
    clt_Book := c_Book.clt,
    kno_Book := c_Book.kno,
    kon_Book := c_Book.kon,
    kyes_Book := kit_self,
    no_Book_deep := no_Book_deep,
    no_Book_first := no_Book_first,
    no_Book_modes := no_Book_modes,
    no_Book_signs := no_Book_signs,
    g_BadBook := c_BadBook.g,
    oex_BadBook := c_BadBook.ox,
    xct_BadBook := c_BadBook.xt,
    no_BadBook_part := no_BadBook_part,
    no_BadBook_mode := no_BadBook_mode,
    no_BadBook_number := no_BadBook_number,
    g_BadText := c_BadText.g,
    oex_BadText := c_BadText.ox,
    xct_BadText := c_BadText.xt,
    no_BadText_number := no_BadText_number,
    g_BadName := c_BadName.g,
    oex_BadName := c_BadName.ox,
    xct_BadName := c_BadName.xt,
    no_BadName_name := no_BadName_name,
    xm_BadText_BadBook := exm_mk c_BadText.ox.exC hc_BadText c_BadText.ox.tyC xm_BadText_BadBook,
    xm_BadText_BadText := exm_mk c_BadText.ox.exC hc_BadText c_BadText.ox.tyC xm_BadText_BadText,
    xm_BadText_BadName := exm_mk c_BadText.ox.exC hc_BadText c_BadText.ox.tyC xm_BadText_BadName,
    g__law_number := g__law_number,
    a__law_number := a__law_number,
    fd__law_number := fd__law_number,
    F__law_number := F__law_number,
    b__law_number := F__law_number.binds (ps := ["script", "index"]) fun _ _ _ _ _ _ us hl => match us, hl with | [_, _], _ => rfl,
    g__law_take := g__law_take,
    a__law_take := a__law_take,
    fd__law_take := fd__law_take,
    F__law_take := F__law_take,
    b__law_take := F__law_take.binds (ps := ["draw", "many"]) fun _ _ _ _ _ _ us hl => match us, hl with | [_, _], _ => rfl,
    g__law_pick := g__law_pick,
    a__law_pick := a__law_pick,
    fd__law_pick := fd__law_pick,
    F__law_pick := F__law_pick,
    b__law_pick := F__law_pick.binds (ps := ["draw", "items"]) fun _ _ _ _ _ _ us hl => match us, hl with | [_, _], _ => rfl,
    g__law_deed := g__law_deed,
    a__law_deed := a__law_deed,
    fd__law_deed := fd__law_deed,
    F__law_deed := F__law_deed,
    b__law_deed := F__law_deed.binds (ps := ["draw", "modes"]) fun _ _ _ _ _ _ us hl => match us, hl with | [_, _], _ => rfl,
    g__law_told := g__law_told,
    a__law_told := a__law_told,
    fd__law_told := fd__law_told,
    F__law_told := F__law_told,
    b__law_told := F__law_told.binds (ps := ["draw", "signs"]) fun _ _ _ _ _ _ us hl => match us, hl with | [_, _], _ => rfl,
    g__law_row := g__law_row,
    a__law_row := a__law_row,
    fd__law_row := fd__law_row,
    F__law_row := F__law_row,
    b__law_row := F__law_row.binds (ps := ["told", "mode", "sign", "late"]) fun _ _ _ _ _ _ us hl => match us, hl with | [_, _, _, _], _ => rfl,
    g__law_done := g__law_done,
    a__law_done := a__law_done,
    fd__law_done := fd__law_done,
    F__law_done := F__law_done,
    b__law_done := F__law_done.binds (ps := ["told", "stack", "deed"]) fun _ _ _ _ _ _ us hl => match us, hl with | [_, _, _], _ => rfl,
    g__law_line := g__law_line,
    a__law_line := a__law_line,
    fd__law_line := fd__law_line,
    F__law_line := F__law_line,
    b__law_line := F__law_line.binds (ps := ["told", "stack", "line"]) fun _ _ _ _ _ _ us hl => match us, hl with | [_, _, _], _ => rfl,
    g__law_text := g__law_text,
    a__law_text := a__law_text,
    fd__law_text := fd__law_text,
    F__law_text := F__law_text,
    b__law_text := F__law_text.binds (ps := ["told", "stack", "lines"]) fun _ _ _ _ _ _ us hl => match us, hl with | [_, _, _], _ => rfl,
    ini_BadBook := ini_BadBook,
    typ_BadBook := typ_BadBook,
    a_BadBook___init__ := a_BadBook___init__,
    fd_BadBook___init__ := fd_BadBook___init__,
    F_BadBook___init__ := F_BadBook___init__,
    b_BadBook___init__ := F_BadBook___init__.binds (ps := ["self", "part", "mode", "number"]) fun _ _ _ _ _ _ us hl => match us, hl with | [_, _, _, _], _ => rfl,
    g_is_row := g_is_row,
    a_is_row := a_is_row,
    fd_is_row := fd_is_row,
    F_is_row := F_is_row,
    b_is_row := F_is_row.binds (ps := ["thing"]) fun _ _ _ _ _ _ us hl => match us, hl with | [_], _ => rfl,
    g_is_name := g_is_name,
    a_is_name := a_is_name,
    fd_is_name := fd_is_name,
    F_is_name := F_is_name,
    b_is_name := F_is_name.binds (ps := ["thing"]) fun _ _ _ _ _ _ us hl => match us, hl with | [_], _ => rfl,
    g_is_deed := g_is_deed,
    a_is_deed := a_is_deed,
    fd_is_deed := fd_is_deed,
    F_is_deed := F_is_deed,
    b_is_deed := F_is_deed.binds (ps := ["modes", "deed"]) fun _ _ _ _ _ _ us hl => match us, hl with | [_, _], _ => rfl,
    g_are_signs := g_are_signs,
    a_are_signs := a_are_signs,
    fd_are_signs := fd_are_signs,
    F_are_signs := F_are_signs,
    b_are_signs := F_are_signs.binds (ps := ["signs", "some"]) fun _ _ _ _ _ _ us hl => match us, hl with | [_, _], _ => rfl,
    g_are_nexts := g_are_nexts,
    a_are_nexts := a_are_nexts,
    fd_are_nexts := fd_are_nexts,
    F_are_nexts := F_are_nexts,
    b_are_nexts := F_are_nexts.binds (ps := ["signs", "some"]) fun _ _ _ _ _ _ us hl => match us, hl with | [_, _], _ => rfl,
    g_check_mode := g_check_mode,
    a_check_mode := a_check_mode,
    fd_check_mode := fd_check_mode,
    F_check_mode := F_check_mode,
    b_check_mode := F_check_mode.binds (ps := ["signs", "modes", "name"]) fun _ _ _ _ _ _ us hl => match us, hl with | [_, _, _], _ => rfl,
    g_kept := g_kept,
    a_kept := a_kept,
    fd_kept := fd_kept,
    F_kept := F_kept,
    b_kept := F_kept.binds (ps := ["mode"]) fun _ _ _ _ _ _ us hl => match us, hl with | [_], _ => rfl,
    g_is_number := g_is_number,
    a_is_number := a_is_number,
    fd_is_number := fd_is_number,
    F_is_number := F_is_number,
    b_is_number := F_is_number.binds (ps := ["thing"]) fun _ _ _ _ _ _ us hl => match us, hl with | [_], _ => rfl,
    mk_Book := mk_Book,
    a_Book___init__ := a_Book___init__,
    fd_Book___init__ := fd_Book___init__,
    F_Book___init__ := F_Book___init__,
    b_Book___init__ := F_Book___init__.binds (ps := ["self", "signs", "modes", "first", "deep"]) fun _ _ _ _ _ _ us hl => match us, hl with | [_, _, _, _, _], _ => rfl,
    g__law_book := g__law_book,
    a__law_book := a__law_book,
    fd__law_book := fd__law_book,
    F__law_book := F__law_book,
    b__law_book := F__law_book.binds (ps := ["told"]) fun _ _ _ _ _ _ us hl => match us, hl with | [_], _ => rfl,
    g__law_signs := g__law_signs,
    a__law_signs := a__law_signs,
    fd__law_signs := fd__law_signs,
    F__law_signs := F__law_signs,
    b__law_signs := F__law_signs.binds (ps := ["draw", "signs", "most"]) fun _ _ _ _ _ _ us hl => match us, hl with | [_, _, _], _ => rfl,
    g__law_lines := g__law_lines,
    a__law_lines := a__law_lines,
    fd__law_lines := fd__law_lines,
    F__law_lines := F__law_lines,
    b__law_lines := F__law_lines.binds (ps := ["draw", "signs", "many", "most"]) fun _ _ _ _ _ _ us hl => match us, hl with | [_, _, _, _], _ => rfl,
    g_spans := g_spans,
    a_spans := a_spans,
    fd_spans := fd_spans,
    F_spans := F_spans,
    b_spans := F_spans.binds (ps := ["colours"]) fun _ _ _ _ _ _ us hl => match us, hl with | [_], _ => rfl,
    g_check_book := g_check_book,
    a_check_book := a_check_book,
    fd_check_book := fd_check_book,
    F_check_book := F_check_book,
    b_check_book := F_check_book.binds (ps := ["book"]) fun _ _ _ _ _ _ us hl => match us, hl with | [_], _ => rfl,
    ini_BadText := ini_BadText,
    typ_BadText := typ_BadText,
    a_BadText___init__ := a_BadText___init__,
    fd_BadText___init__ := fd_BadText___init__,
    F_BadText___init__ := F_BadText___init__,
    b_BadText___init__ := F_BadText___init__.binds (ps := ["self", "number"]) fun _ _ _ _ _ _ us hl => match us, hl with | [_, _], _ => rfl,
    g_is_line := g_is_line,
    a_is_line := a_is_line,
    fd_is_line := fd_is_line,
    F_is_line := F_is_line,
    b_is_line := F_is_line.binds (ps := ["book", "line"]) fun _ _ _ _ _ _ us hl => match us, hl with | [_, _], _ => rfl,
    g_check_lines := g_check_lines,
    a_check_lines := a_check_lines,
    fd_check_lines := fd_check_lines,
    F_check_lines := F_check_lines,
    b_check_lines := F_check_lines.binds (ps := ["book", "lines"]) fun _ _ _ _ _ _ us hl => match us, hl with | [_, _], _ => rfl,
    m_Book_row := m_Book_row,
    a_Book_row := a_Book_row,
    fd_Book_row := fd_Book_row,
    F_Book_row := F_Book_row,
    b_Book_row := F_Book_row.binds (ps := ["self", "mode", "sign", "late"]) fun _ _ _ _ _ _ us hl => match us, hl with | [_, _, _, _], _ => rfl,
    m_Book_done := m_Book_done,
    a_Book_done := a_Book_done,
    fd_Book_done := fd_Book_done,
    F_Book_done := F_Book_done,
    b_Book_done := F_Book_done.binds (ps := ["self", "stack", "deed"]) fun _ _ _ _ _ _ us hl => match us, hl with | [_, _, _], _ => rfl,
    m_Book_step := m_Book_step,
    a_Book_step := a_Book_step,
    fd_Book_step := fd_Book_step,
    F_Book_step := F_Book_step,
    b_Book_step := F_Book_step.binds (ps := ["self", "stack", "sign", "late"]) fun _ _ _ _ _ _ us hl => match us, hl with | [_, _, _, _], _ => rfl,
    m_Book_ended := m_Book_ended,
    a_Book_ended := a_Book_ended,
    fd_Book_ended := fd_Book_ended,
    F_Book_ended := F_Book_ended,
    b_Book_ended := F_Book_ended.binds (ps := ["self", "stack"]) fun _ _ _ _ _ _ us hl => match us, hl with | [_, _], _ => rfl,
    g_coloured := g_coloured,
    a_coloured := a_coloured,
    fd_coloured := fd_coloured,
    F_coloured := F_coloured,
    b_coloured := F_coloured.binds (ps := ["book", "stack", "line"]) fun _ _ _ _ _ _ us hl => match us, hl with | [_, _, _], _ => rfl,
    g_colour_text := g_colour_text,
    a_colour_text := a_colour_text,
    fd_colour_text := fd_colour_text,
    F_colour_text := F_colour_text,
    b_colour_text := F_colour_text.binds (ps := ["book", "lines"]) fun _ _ _ _ _ _ us hl => match us, hl with | [_, _], _ => rfl,
    g_write_spans := g_write_spans,
    a_write_spans := a_write_spans,
    fd_write_spans := fd_write_spans,
    F_write_spans := F_write_spans,
    b_write_spans := F_write_spans.binds (ps := ["book", "lines"]) fun _ _ _ _ _ _ us hl => match us, hl with | [_, _], _ => rfl,
    ini_BadName := ini_BadName,
    typ_BadName := typ_BadName,
    a_BadName___init__ := a_BadName___init__,
    fd_BadName___init__ := fd_BadName___init__,
    F_BadName___init__ := F_BadName___init__,
    b_BadName___init__ := F_BadName___init__.binds (ps := ["self", "name"]) fun _ _ _ _ _ _ us hl => match us, hl with | [_, _], _ => rfl,
    g_is_paint := g_is_paint,
    a_is_paint := a_is_paint,
    fd_is_paint := fd_is_paint,
    F_is_paint := F_is_paint,
    b_is_paint := F_is_paint.binds (ps := ["colour", "paint"]) fun _ _ _ _ _ _ us hl => match us, hl with | [_, _], _ => rfl,
    g_painted := g_painted,
    a_painted := a_painted,
    fd_painted := fd_painted,
    F_painted := F_painted,
    b_painted := F_painted.binds (ps := ["book", "lines", "paints"]) fun _ _ _ _ _ _ us hl => match us, hl with | [_, _, _], _ => rfl,
    g__law_spread := g__law_spread,
    a__law_spread := a__law_spread,
    fd__law_spread := fd__law_spread,
    F__law_spread := F__law_spread,
    b__law_spread := F__law_spread.binds (ps := ["rows"]) fun _ _ _ _ _ _ us hl => match us, hl with | [_], _ => rfl,
    g_is_mode := g_is_mode,
    a_is_mode := a_is_mode,
    fd_is_mode := fd_is_mode,
    F_is_mode := F_is_mode,
    b_is_mode := F_is_mode.binds (ps := ["book", "mode"]) fun _ _ _ _ _ _ us hl => match us, hl with | [_, _], _ => rfl,
    g_is_stack := g_is_stack,
    a_is_stack := a_is_stack,
    fd_is_stack := fd_is_stack,
    F_is_stack := F_is_stack,
    b_is_stack := F_is_stack.binds (ps := ["book", "stack"]) fun _ _ _ _ _ _ us hl => match us, hl with | [_, _], _ => rfl,
    g_check_stack := g_check_stack,
    a_check_stack := a_check_stack,
    fd_check_stack := fd_check_stack,
    F_check_stack := F_check_stack,
    b_check_stack := F_check_stack.binds (ps := ["book", "stack"]) fun _ _ _ _ _ _ us hl => match us, hl with | [_, _], _ => rfl,
    g_colour_line := g_colour_line,
    a_colour_line := a_colour_line,
    fd_colour_line := fd_colour_line,
    F_colour_line := F_colour_line,
    b_colour_line := F_colour_line.binds (ps := ["book", "stack", "line"]) fun _ _ _ _ _ _ us hl => match us, hl with | [_, _, _], _ => rfl,
    a_law := a_law,
    fd_law := fd_law,
    F_law := F_law,
    b_law := F_law.binds (ps := ["script"]) fun _ _ _ _ _ _ us hl => match us, hl with | [_], _ => rfl,
    g_FIGURES := ⟨_, PySem.W.mg_of X G g_FIGURES⟩,
    g_LETTERS := ⟨_, PySem.W.mg_of X G g_LETTERS⟩,
    g_MOST_DEEP := ⟨_, PySem.W.mg_of X G g_MOST_DEEP⟩,
    g_MOST_LINES := ⟨_, PySem.W.mg_of X G g_MOST_LINES⟩,
    g_MOST_LONG := ⟨_, PySem.W.mg_of X G g_MOST_LONG⟩,
    g_MOST_MODES := ⟨_, PySem.W.mg_of X G g_MOST_MODES⟩,
    g_MOST_NEXTS := ⟨_, PySem.W.mg_of X G g_MOST_NEXTS⟩,
    g_MOST_ROWS := ⟨_, PySem.W.mg_of X G g_MOST_ROWS⟩,
    g_MOST_SIGNS := ⟨_, PySem.W.mg_of X G g_MOST_SIGNS⟩,
    n_all := PySem.W.mg_none_of X G n_all,
    n_any := PySem.W.mg_none_of X G n_any,
    n_bool := PySem.W.mg_none_of X G n_bool,
    n_dict := PySem.W.mg_none_of X G n_dict,
    n_enumerate := PySem.W.mg_none_of X G n_enumerate,
    n_int := PySem.W.mg_none_of X G n_int,
    n_isinstance := PySem.W.mg_none_of X G n_isinstance,
    n_len := PySem.W.mg_none_of X G n_len,
    n_list := PySem.W.mg_none_of X G n_list,
    n_range := PySem.W.mg_none_of X G n_range,
    n_sorted := PySem.W.mg_none_of X G n_sorted,
    n_str := PySem.W.mg_none_of X G n_str,
    n_tuple := PySem.W.mg_none_of X G n_tuple,
    n_zip := PySem.W.mg_none_of X G n_zip }, e⟩
  obtain ⟨Fa, rfl⟩ := Fa
  exact ⟨Fa.fd_law, Fun.to1 Fa.F_law fun _ _ _ _ _ _ _ => rfl, fun base _ _ => ok_law Fa⟩
abbrev Dist (c : Cs) : Prop := [c.BadBook, c.BadText, c.BadName, c.Book].Nodup
end K02

namespace K02
open PySem PySem.Spec PyProof.Rows L2 FL
local macro_rules | `(tactic| decreasing_trivial_pre_omega) => `(tactic| first | omega | (simp only [List.length_map, List.length_append, List.length_cons, List.length_nil, List.length_replicate, List.length_take, List.length_drop, mkS_length]; omega))
theorem num_loop (c : Cs) {a0 a1 ce t s5 s6 : Sl} (ds : List D) (r : Int) : ∃ r' s5', loopS (putG 5) (T__law_number_1 c) ds [a0, a1, ce, t, .va none .f (.int r), s5, s6] = .nx [a0, a1, ce, t, .va none .f (.int r'), s5', s6] := by
  obtain ⟨ρ', e, r', s5', rfl⟩ := loop_inv (P := fun ρ => ∃ r s5, ρ = [a0, a1, ce, t, .va none .f (.int r), s5, s6]) (tg := putG 5) (body := T__law_number_1 c) (ds := ds) (ρ := [a0, a1, ce, t, .va none .f (.int r), s5, s6])
    (fun d _ ρ ⟨r, s5, e⟩ => by
      subst e
      refine ⟨_, by simp; rfl, _, .inl ?_, r / 1009, .va none .f d, rfl⟩
      unfold T__law_number_1
      simp [fdivD_int]) ⟨_, _, rfl⟩
  exact ⟨r', s5', e⟩
theorem sm {i j : Int} (h : (smallI i || smallI j) = true) : mulDD (.f, .int i) (.f, .int j) = some (.f, .int (i * j)) := mulDD_int h
theorem smr {i j : Int} (h : smallI j = true) : mulDD (.f, .int i) (.f, .int j) = some (.f, .int (i * j)) := mulDD_int (by simp [h])
theorem sml {i j : Int} (h : smallI i = true) : mulDD (.f, .int i) (.f, .int j) = some (.f, .int (i * j)) := mulDD_int (by simp [h])
theorem small_of {i : Int} (h0 : 0 ≤ i) (h : i < 4294967296) : smallI i = true := by
  unfold smallI
  simp
  omega
theorem n2 (c : Cs) {p : Option Nat} {a0 a2 a3 a4 a5 : Sl} {i b : Int} (h0 : 0 ≤ b) (h1 : b < 2147483647) : ∃ z s6, 0 ≤ z ∧ T__law_number_2 c [a0, .va p .f (.int i), a2, a3, a4, a5, .va none .f (.int b)] = .rt .f (.int z) [a0, .va p .f (.int i), a2, a3, a4, a5, s6] := by
  refine ⟨(((b * b + 40503 * i) % 2147483629) * 69621 + ((b * b + 40503 * i) % 2147483629) / 977) % 2147483587, .va none .f (.int ((b * b + 40503 * i) % 2147483629)), Int.emod_nonneg _ (by decide), ?_⟩
  unfold T__law_number_2
  simp [smr (small_of h0 (by omega : b < 4294967296)), sml (show smallI 40503 = true by decide), smr (show smallI 69621 = true by decide), modD_int, fdivD_int]
theorem n3 (c : Cs) {p q r : Option Nat} {a3 a4 a5 a6 : Sl} {ns : List D} {i ce : Int} : ∃ z s6, 0 ≤ z ∧ T__law_number_3 c [.va p .f (.lst ns), .va q .f (.int i), .va r .f (.int ce), a3, a4, a5, a6] = .rt .f (.int z) [.va p .f (.lst ns), .va q .f (.int i), .va r .f (.int ce), a3, a4, a5, s6] := by
  have h0 : 0 ≤ ((ce + 977 * i) * 48271 + 31 * (ns.length : Int)) % 2147483647 := Int.emod_nonneg _ (by decide)
  have h1 : ((ce + 977 * i) * 48271 + 31 * (ns.length : Int)) % 2147483647 < 2147483647 := Int.emod_lt_of_pos _ (by decide)
  obtain ⟨z, s6, hz, e⟩ := n2 c (p := q) (a0 := .va p .f (.lst ns)) (a2 := .va r .f (.int ce)) (a3 := a3) (a4 := a4) (a5 := a5) (i := i) h0 h1
  refine ⟨z, s6, hz, ?_⟩
  unfold T__law_number_3
  simp [sml (show smallI 977 = true by decide), sml (show smallI 31 = true by decide), smr (show smallI 48271 = true by decide), modD_int, e]
theorem n4 (c : Cs) {p q r : Option Nat} {a3 a5 a6 : Sl} {ns : List D} {i ce t : Int} : ∃ z s6, 0 ≤ z ∧ T__law_number_4 c [.va p .f (.lst ns), .va q .f (.int i), .va r .f (.int ce), a3, .va none .f (.int t), a5, a6] = .rt .f (.int z) [.va p .f (.lst ns), .va q .f (.int i), .va r .f (.int ce), a3, .va none .f (.int t), a5, s6] := by
  unfold T__law_number_4
  by_cases h : 0 < t
  · exact ⟨t % 1009, a6, Int.emod_nonneg _ (by decide), by simp [h, modD_int]⟩
  · obtain ⟨z, s6, hz, e⟩ := n3 c (p := p) (q := q) (r := r) (a3 := a3) (a4 := .va none .f (.int t)) (a5 := a5) (a6 := a6) (ns := ns) (i := i) (ce := ce)
    exact ⟨z, s6, hz, by simp [h, e]⟩
theorem n6 (c : Cs) {p q : Option Nat} {ns : List D} {i ce t : Int} : ∃ z s4 s5 s6, 0 ≤ z ∧ T__law_number_6 c [.va p .f (.lst ns), .va q .f (.int i), .va none .f (.int ce), .va none .f (.int t), .no, .no, .no] =
    .rt .f (.int z) [.va p .f (.lst ns), .va q .f (.int i), .va none .f (.int ce), .va none .f (.int t), s4, s5, s6] := by
  have key : ∀ r0, ∃ z s4 s5 s6, 0 ≤ z ∧ T__law_number_5 c [.va p .f (.lst ns), .va q .f (.int i), .va none .f (.int ce), .va none .f (.int t), .va none .f (.int r0), .no, .no] =
    .rt .f (.int z) [.va p .f (.lst ns), .va q .f (.int i), .va none .f (.int ce), .va none .f (.int t), s4, s5, s6] := by
    intro r0
    have h0 : 0 ≤ t % 60 := Int.emod_nonneg _ (by decide)
    have h1 : t % 60 < 60 := Int.emod_lt_of_pos _ (by decide)
    obtain ⟨r', s5, e⟩ := num_loop c (a0 := .va p .f (.lst ns)) (a1 := .va q .f (.int i)) (ce := .va none .f (.int ce)) (t := .va none .f (.int t)) (s5 := .no) (s6 := .no) (rangeD 0 (t % 60)) r0
    obtain ⟨z, s6, hz, e2⟩ := n4 c (p := p) (q := q) (r := none) (a3 := .va none .f (.int t)) (a5 := s5) (a6 := .no) (ns := ns) (i := i) (ce := ce) (t := r')
    refine ⟨z, .va none .f (.int r'), s5, s6, hz, ?_⟩
    unfold T__law_number_5
    have hr : rng1 [t % 60] = some (t % 60) := if_pos ⟨by omega, by omega⟩
    have hi : intsA [(.f, .int (t % 60))] = some [t % 60] := rfl
    simp [modD_int, hr, hi, e, e2]
  have hpow : powD (.f, .int 10) (.f, .int 18) = some (.f, .int 1000000000000000000) := by simp [powD, on2, ifO]
  unfold T__law_number_6
  by_cases h : t < 60
  · obtain ⟨z, s4, s5, s6, hz, e⟩ := key (ce - 1000000000000000000)
    exact ⟨z, s4, s5, s6, hz, by simpa [h, hpow] using e⟩
  · obtain ⟨z, s4, s5, s6, hz, e⟩ := key 0
    exact ⟨z, s4, s5, s6, hz, by simpa [h] using e⟩
theorem at_mod {α : Type} (xs : List α) (h : xs ≠ []) (i : Int) : ∃ x ∈ xs, atI xs (i % (xs.length : Int)) = some x := by
  have hl : (0 : Int) < xs.length := by
    have := List.length_pos_iff.mpr h
    omega
  have hp : 0 ≤ i % (xs.length : Int) := Int.emod_nonneg _ (by omega)
  have hq : i % (xs.length : Int) < xs.length := Int.emod_lt_of_pos _ hl
  have hr : (i % (xs.length : Int)).toNat < xs.length := by omega
  refine ⟨xs[(i % (xs.length : Int)).toNat], List.getElem_mem hr, ?_⟩
  unfold atI ixN
  rw [if_pos hp, if_pos hq]
  exact List.getElem?_eq_getElem hr
theorem number_nil (c : Cs) (i : Int) : ∃ z, 0 ≤ z ∧ f__law_number c [(.f, .lst []), (.f, .int i)] = .ret .f (.int z) [(.f, .lst []), (.f, .int i)] := by
  unfold f__law_number T__law_number T__law_number_7
  obtain ⟨z, s4, s5, s6, hz, e⟩ := n6 c (p := some 0) (q := some 1) (ns := []) (i := i) (ce := 12345) (t := 0)
  exact ⟨z, hz, by simp [e, outAt]⟩
theorem number_cons (c : Cs) (xs : List D) (i ce : Int) (hl : (0 : Int) < xs.length) (hlen : (xs.length : Int) < 1073741824) (he : eqable 60 (.lst xs) = true) (hne : eqD (.lst xs) (.lst []) = false) (hat : atI xs (i % (xs.length : Int)) = some (.int ce)) :
    ∃ z, 0 ≤ z ∧ f__law_number c [(.f, .lst xs), (.f, .int i)] = .ret .f (.int z) [(.f, .lst xs), (.f, .int i)] := by
  unfold f__law_number T__law_number T__law_number_7
  obtain ⟨z, s4, s5, s6, hz, e⟩ := n6 c (p := some 0) (q := some 1) (ns := xs) (i := i) (ce := ce) (t := i / (xs.length : Int))
  exact ⟨z, hz, by simp -implicitDefEqProofs (disch := decreasing_trivial_pre_omega) [List.findIdx?_cons, List.getElem?_cons_zero, List.getElem?_cons_succ, List.getElem?_nil, dec_le, dec_le', dec_lt, dec_lt', dec_eq, dec_ne, -getElem?_pos, -getElem?_neg, e, he, hne, modD_int hl, fdivD_int hl hlen, hat]⟩
theorem number_ (c : Cs) (ns : List Int) (hb : ns.length < 1000000) (i : Int) : ∃ z, 0 ≤ z ∧ f__law_number c [(.f, .lst (ns.map .int)), (.f, .int i)] = .ret .f (.int z) [(.f, .lst (ns.map .int)), (.f, .int i)] := by
  by_cases hn : ns = []
  · subst hn
    exact number_nil c i
  · have hxn : ns.map D.int ≠ [] := by simpa using hn
    obtain ⟨x, hx, hat⟩ := at_mod (ns.map D.int) hxn i
    obtain ⟨ce, _, rfl⟩ := List.mem_map.mp hx
    refine number_cons c _ i ce ?_ ?_ eqable_ints ?_ hat
    · have := List.length_pos_iff.mpr hxn
      omega
    · rw [List.length_map]
      omega
    · cases ns with
      | nil => exact absurd rfl hn
      | cons n ns => simp
/-- the draw: the script and how many numbers were drawn -/
def drw (ns : List Int) (k : Int) : M × D := (.o .f, .lst [.lst (ns.map .int), .int k])
theorem take_ (c : Cs) (ns : List Int) (hb : ns.length < 1000000) (k many : Int) (hm : 0 < many) : ∃ z, 0 ≤ z ∧ z < many ∧ f__law_take c [drw ns k, (.f, .int many)] = .ret .f (.int z) [drw ns (k + 1), (.f, .int many)] := by
  obtain ⟨z, hz, e⟩ := number_ c ns hb (k + 1)
  refine ⟨z % many, Int.emod_nonneg _ (by omega), Int.emod_lt_of_pos _ hm, ?_⟩
  unfold f__law_take T__law_take T__law_take_1 drw
  simp -implicitDefEqProofs (disch := decreasing_trivial_pre_omega) [List.findIdx?_cons, List.getElem?_cons_zero, List.getElem?_cons_succ, List.getElem?_nil, dec_le, dec_le', dec_lt, dec_lt', dec_eq, dec_ne, -getElem?_pos, -getElem?_neg, putIx, atI, ixN, e, modD_int hm]
theorem at_lt {α : Type} (xs : List α) (i : Int) (h0 : 0 ≤ i) (h1 : i < xs.length) : ∃ x ∈ xs, atI xs i = some x := by
  have hr : i.toNat < xs.length := by omega
  refine ⟨xs[i.toNat], List.getElem_mem hr, ?_⟩
  unfold atI ixN
  rw [if_pos h0, if_pos h1]
  exact List.getElem?_eq_getElem hr
theorem pick_ (c : Cs) (ns : List Int) (hb : ns.length < 1000000) (k : Int) (xs : List D) (hx : xs ≠ []) (m : M) (hm : m = .f ∨ m = .o .f) : ∃ x ∈ xs, f__law_pick c [drw ns k, (m, .lst xs)] = .ret .f x [drw ns (k + 1), (m, .lst xs)] := by
  have hl : (0 : Int) < xs.length := by
    have := List.length_pos_iff.mpr hx
    omega
  obtain ⟨z, h0, h1, e⟩ := take_ c ns hb k xs.length hl
  obtain ⟨x, hxm, ex⟩ := at_lt xs z h0 h1
  refine ⟨x, hxm, ?_⟩
  unfold drw at e ⊢
  unfold f__law_pick T__law_pick
  rcases hm with rfl | rfl <;> simp -implicitDefEqProofs (disch := decreasing_trivial_pre_omega) [List.findIdx?_cons, List.getElem?_cons_zero, List.getElem?_cons_succ, List.getElem?_nil, dec_le, dec_le', dec_lt, dec_lt', dec_eq, dec_ne, -getElem?_pos, -getElem?_neg, e, ex]
def IsDeed (xs : List D) (d : D) : Prop := d = .tup [.str "stay"] ∨ d = .tup [.str "pop"] ∨ ∃ x ∈ xs, d = .tup [.str "push", x] ∨ d = .tup [.str "swap", x]
theorem deed_ (c : Cs) (ns : List Int) (hb : ns.length < 1000000) (k : Int) (xs : List D) (hx : xs ≠ []) (m : M) (hm : m = .f ∨ m = .o .f) : ∃ k' d, IsDeed xs d ∧ f__law_deed c [drw ns k, (m, .lst xs)] = .ret .f d [drw ns k', (m, .lst xs)] := by
  obtain ⟨z, h0, h1, e⟩ := take_ c ns hb k 6 (by decide)
  obtain ⟨x, hxm, ep⟩ := pick_ c ns hb (k + 1) xs hx m hm
  unfold drw at e ep ⊢
  unfold f__law_deed T__law_deed T__law_deed_1
  by_cases hz : z < 2
  · refine ⟨k + 1, _, .inl rfl, ?_⟩
    rcases hm with rfl | rfl <;> simp -implicitDefEqProofs (disch := decreasing_trivial_pre_omega) [List.findIdx?_cons, List.getElem?_cons_zero, List.getElem?_cons_succ, List.getElem?_nil, dec_le, dec_le', dec_lt, dec_lt', dec_eq, dec_ne, -getElem?_pos, -getElem?_neg, e, hz]
  by_cases hz2 : z = 2
  · refine ⟨k + 1, _, .inr (.inl rfl), ?_⟩
    subst hz2
    rcases hm with rfl | rfl <;> simp -implicitDefEqProofs (disch := decreasing_trivial_pre_omega) [List.findIdx?_cons, List.getElem?_cons_zero, List.getElem?_cons_succ, List.getElem?_nil, dec_le, dec_le', dec_lt, dec_lt', dec_eq, dec_ne, -getElem?_pos, -getElem?_neg, e, eqD]
  have h3 : z = 3 ∨ z = 4 ∨ z = 5 := by omega
  have ne : ∀ a b : Int, a ≠ b → eqD (.int a) (.int b) = false := by intro a b h; simp [eqD, h]
  rcases h3 with rfl | rfl | rfl
  · refine ⟨k + 1 + 1, _, .inr (.inr ⟨x, hxm, .inl rfl⟩), ?_⟩
    rcases hm with rfl | rfl <;> simp -implicitDefEqProofs (disch := decreasing_trivial_pre_omega) [List.findIdx?_cons, List.getElem?_cons_zero, List.getElem?_cons_succ, List.getElem?_nil, dec_le, dec_le', dec_lt, dec_lt', dec_eq, dec_ne, -getElem?_pos, -getElem?_neg, e, ep, ne]
  · refine ⟨k + 1 + 1, _, .inr (.inr ⟨x, hxm, .inl rfl⟩), ?_⟩
    rcases hm with rfl | rfl <;> simp -implicitDefEqProofs (disch := decreasing_trivial_pre_omega) [List.findIdx?_cons, List.getElem?_cons_zero, List.getElem?_cons_succ, List.getElem?_nil, dec_le, dec_le', dec_lt, dec_lt', dec_eq, dec_ne, -getElem?_pos, -getElem?_neg, e, ep, ne]
  · refine ⟨k + 1 + 1, _, .inr (.inr ⟨x, hxm, .inr rfl⟩), ?_⟩
    rcases hm with rfl | rfl <;> simp -implicitDefEqProofs (disch := decreasing_trivial_pre_omega) [List.findIdx?_cons, List.getElem?_cons_zero, List.getElem?_cons_succ, List.getElem?_nil, dec_le, dec_le', dec_lt, dec_lt', dec_eq, dec_ne, -getElem?_pos, -getElem?_neg, e, ep, ne]
theorem lc_sub (c : Cs) (ns : List Int) (hb : ns.length < 1000000) {p : Option Nat} {a1 a2 a3 a4 a5 a6 a7 a8 : Sl} : ∀ (ds acc : List D) (k : Int) (s9 : Sl), acc.length + ds.length < 16777216 → ∃ k' l, l.Sublist ds ∧
    lcL [9] (putG 9) (isB (use2 eqDD (callE (f__law_take c) (consA (name 0) (consA (konst (.int 2)) nilA))) (konst (.int 0)))) (nameFD 9) ds acc [.va p (drw ns k).1 (drw ns k).2, a1, a2, a3, a4, a5, a6, a7, a8, .no] =
      some (acc ++ l, [.va p (drw ns k').1 (drw ns k').2, a1, a2, a3, a4, a5, a6, a7, a8, .no])
  | [], acc, k, s9, _ => ⟨k, [], .slnil, by simp [lcL]⟩
  | d :: ds, acc, k, s9, h => by
    obtain ⟨z, h0, h1, e⟩ := take_ c ns hb k 2 (by decide)
    have hz : z = 0 ∨ z = 1 := by omega
    rcases hz with rfl | rfl
    · obtain ⟨k', l, hl, e2⟩ := lc_sub c ns hb (p := p) (a1 := a1) (a2 := a2) (a3 := a3) (a4 := a4) (a5 := a5) (a6 := a6) (a7 := a7) (a8 := a8) ds (acc ++ [d]) (k + 1) s9 (by simp at h ⊢; omega)
      refine ⟨k', d :: l, hl.cons₂ d, ?_⟩
      unfold drw at e e2 ⊢
      unfold lcL
      have hlt : acc.length < 16777216 := by simp at h; omega
      simp -implicitDefEqProofs (disch := decreasing_trivial_pre_omega) [List.findIdx?_cons, List.getElem?_cons_zero, List.getElem?_cons_succ, List.getElem?_nil, dec_le, dec_le', dec_lt, dec_lt', dec_eq, dec_ne, -getElem?_pos, -getElem?_neg, e, eqD, hlt] at e2 ⊢
      exact e2
    · obtain ⟨k', l, hl, e2⟩ := lc_sub c ns hb (p := p) (a1 := a1) (a2 := a2) (a3 := a3) (a4 := a4) (a5 := a5) (a6 := a6) (a7 := a7) (a8 := a8) ds acc (k + 1) s9 (by simp at h ⊢; omega)
      refine ⟨k', l, hl.cons d, ?_⟩
      unfold drw at e e2 ⊢
      unfold lcL
      simp -implicitDefEqProofs (disch := decreasing_trivial_pre_omega) [List.findIdx?_cons, List.getElem?_cons_zero, List.getElem?_cons_succ, List.getElem?_nil, dec_le, dec_le', dec_lt, dec_lt', dec_eq, dec_ne, -getElem?_pos, -getElem?_neg, e, eqD] at e2 ⊢
      exact e2
/-! the data of the law -/
inductive Deed where
  | stay | pop | push (n : Str) | swap (n : Str)
def dDeed : Deed → D
  | .stay => .tup [.str "stay"]
  | .pop => .tup [.str "pop"]
  | .push n => .tup [.str "push", .str n]
  | .swap n => .tup [.str "swap", .str n]
def Deed.ok (names : List Str) : Deed → Prop
  | .stay => True
  | .pop => True
  | .push n => n ∈ names
  | .swap n => n ∈ names
structure Row where
  signs : List Nat
  nexts : Option (List Str)
  colour : Str
  deed : Deed
def dNexts : Option (List Str) → D
  | none => .non
  | some l => .tup (l.map .str)
def dRow (r : Row) : D := .tup [.tup (r.signs.map signD), dNexts r.nexts, .str r.colour, dDeed r.deed]
structure Row.ok (S : Str) (names : List Str) (r : Row) : Prop where
  sg : ∀ x ∈ r.signs, x ∈ S.cps.toList
  ln : r.signs.length ≤ 3
  nx : ∀ l, r.nexts = some l → l.length ≤ 4 ∧ ∀ x ∈ l, x = "" ∨ ∃ c ∈ S.cps.toList, x = ⟨#[c]⟩
  co : r.colour ∈ (["red", "blue", "dim"] : List Str)
  de : r.deed.ok names
structure Mode where
  rows : List Row
  plain : Str
  fin : Deed
def dMode (m : Mode) : D := .tup [.tup (m.rows.map dRow), .str m.plain, dDeed m.fin]
structure Mode.ok (S : Str) (names : List Str) (m : Mode) : Prop where
  ro : ∀ r ∈ m.rows, r.ok S names
  ln : m.rows.length ≤ 3
  pl : m.plain ∈ (["dim", "red", "gray"] : List Str)
  fi : m.fin.ok names
theorem isDeed_ {names : List Str} {d : D} (h : IsDeed (names.map .str) d) : ∃ e : Deed, e.ok names ∧ d = dDeed e := by
  rcases h with rfl | rfl | ⟨x, hx, rfl | rfl⟩
  · exact ⟨.stay, trivial, rfl⟩
  · exact ⟨.pop, trivial, rfl⟩
  · obtain ⟨n, hn, rfl⟩ := List.mem_map.mp hx
    exact ⟨.push n, hn, rfl⟩
  · obtain ⟨n, hn, rfl⟩ := List.mem_map.mp hx
    exact ⟨.swap n, hn, rfl⟩
theorem deedT (c : Cs) (ns : List Int) (hb : ns.length < 1000000) (k : Int) (names : List Str) (hx : names ≠ []) (m : M) (hm : m = .f ∨ m = .o .f) : ∃ k' e, Deed.ok names e ∧ f__law_deed c [drw ns k, (m, .lst (names.map .str))] = .ret .f (dDeed e) [drw ns k', (m, .lst (names.map .str))] := by
  obtain ⟨k', d, hd, e⟩ := deed_ c ns hb k (names.map .str) (by simpa using hx) m hm
  obtain ⟨t, ht, rfl⟩ := isDeed_ hd
  exact ⟨k', t, ht, e⟩
theorem str_of_nexts {S : Str} {l : List D} (h : l.Sublist (S.cps.toList.map signD ++ [.str ""])) : ∃ ys : List Str, l = ys.map .str ∧ ∀ x ∈ ys, x = "" ∨ ∃ c ∈ S.cps.toList, x = ⟨#[c]⟩ := by
  have : ∀ d ∈ l, ∃ x : Str, d = .str x ∧ (x = "" ∨ ∃ c ∈ S.cps.toList, x = ⟨#[c]⟩) := by
    intro d hd
    rcases List.mem_append.mp (h.subset hd) with hm | hm
    · obtain ⟨c, hc, rfl⟩ := List.mem_map.mp hm
      exact ⟨_, rfl, .inr ⟨c, hc, rfl⟩⟩
    · rw [List.mem_singleton.mp hm]
      exact ⟨_, rfl, .inl rfl⟩
  clear h
  induction l with
  | nil => exact ⟨[], rfl, by simp⟩
  | cons d l ih =>
    obtain ⟨ys, rfl, hy⟩ := ih fun d hd => this d (List.mem_cons_of_mem _ hd)
    obtain ⟨x, rfl, hx⟩ := this d List.mem_cons_self
    refine ⟨x :: ys, rfl, fun z hz => ?_⟩
    rcases List.mem_cons.mp hz with rfl | hz
    · exact hx
    · exact hy z hz
theorem signs_of {S : Str} {l : List D} (h : l.Sublist (S.cps.toList.map signD)) : ∃ ys : List Nat, l = ys.map signD ∧ (∀ x ∈ ys, x ∈ S.cps.toList) ∧ ys.length ≤ S.cps.toList.length := by
  obtain ⟨ys, hy, rfl⟩ := List.sublist_map_iff.mp h
  exact ⟨ys, rfl, fun x hx => hy.subset hx, hy.length_le⟩
end K02

namespace K02
open PySem PySem.Spec PyProof.Rows L2 FL
local macro_rules | `(tactic| decreasing_trivial_pre_omega) => `(tactic| first | omega | (simp only [List.length_map, List.length_append, List.length_cons, List.length_nil, List.length_replicate, List.length_take, List.length_drop, mkS_length]; omega))
theorem told_1 (c : Cs) (ns : List Int) (hb : ns.length < 1000000) {p p1 : Option Nat} {k : Int} {S : Str} (hS : S.cps.toList.length ≤ 3) {a2 a3 a4 a5 a6 a7 a8 s9 : Sl} :
    ∃ k' l, l.Sublist (S.cps.toList.map signD) ∧ T__law_told_1 c [.va p (drw ns k).1 (drw ns k).2, .va p1 .f (.str S), a2, a3, a4, a5, a6, a7, a8, s9] =
      .ok false .t (.o .f) (.lst l) [.va p (drw ns k').1 (drw ns k').2, .va p1 .f (.str S), a2, a3, a4, a5, a6, a7, a8, .no] := by
  obtain ⟨k', l, hl, e⟩ := lc_sub c ns hb (p := p) (a1 := .va p1 .f (.str S)) (a2 := a2) (a3 := a3) (a4 := a4) (a5 := a5) (a6 := a6) (a7 := a7) (a8 := a8) (S.cps.toList.map signD) [] k s9 (by simp at hS ⊢; omega)
  refine ⟨k', l, hl, ?_⟩
  unfold drw at e ⊢
  unfold T__law_told_1
  simp -implicitDefEqProofs (disch := decreasing_trivial_pre_omega) [List.findIdx?_cons, List.getElem?_cons_zero, List.getElem?_cons_succ, List.getElem?_nil, dec_le, dec_le', dec_lt, dec_lt', dec_eq, dec_ne, -getElem?_pos, -getElem?_neg] at e ⊢
  simp -implicitDefEqProofs (disch := decreasing_trivial_pre_omega) [List.findIdx?_cons, List.getElem?_cons_zero, List.getElem?_cons_succ, List.getElem?_nil, dec_le, dec_le', dec_lt, dec_lt', dec_eq, dec_ne, -getElem?_pos, -getElem?_neg, e]
theorem told_2 (c : Cs) (ns : List Int) (hb : ns.length < 1000000) {p p1 : Option Nat} {k : Int} {S : Str} (hS : S.cps.toList.length ≤ 3) {a2 a3 a4 a5 a6 a7 a8 s9 : Sl} :
    ∃ k' l, l.Sublist (S.cps.toList.map signD ++ [.str ""]) ∧ T__law_told_2 c [.va p (drw ns k).1 (drw ns k).2, .va p1 .f (.str S), a2, a3, a4, a5, a6, a7, a8, s9] =
      .ok false .t (.o .f) (.lst l) [.va p (drw ns k').1 (drw ns k').2, .va p1 .f (.str S), a2, a3, a4, a5, a6, a7, a8, .no] := by
  obtain ⟨k', l, hl, e⟩ := lc_sub c ns hb (p := p) (a1 := .va p1 .f (.str S)) (a2 := a2) (a3 := a3) (a4 := a4) (a5 := a5) (a6 := a6) (a7 := a7) (a8 := a8) (S.cps.toList.map signD ++ [.str ""]) [] k s9 (by simp at hS ⊢; omega)
  refine ⟨k', l, hl, ?_⟩
  have h1 : S.length ≤ 16777216 := by
    show S.cps.size ≤ _
    simp at hS
    omega
  have h2 : S.cps.size ≤ 16777215 := by
    simp at hS
    omega
  unfold drw at e ⊢
  unfold T__law_told_2
  simp -implicitDefEqProofs (disch := decreasing_trivial_pre_omega) [List.findIdx?_cons, List.getElem?_cons_zero, List.getElem?_cons_succ, List.getElem?_nil, dec_le, dec_le', dec_lt, dec_lt', dec_eq, dec_ne, -getElem?_pos, -getElem?_neg, h1, h2] at e ⊢
  simp -implicitDefEqProofs (disch := decreasing_trivial_pre_omega) [List.findIdx?_cons, List.getElem?_cons_zero, List.getElem?_cons_succ, List.getElem?_nil, dec_le, dec_le', dec_lt, dec_lt', dec_eq, dec_ne, -getElem?_pos, -getElem?_neg, e]
/-- one row -/
theorem told_4 (c : Cs) (ns : List Int) (hb : ns.length < 1000000) {p p1 p2 : Option Nat} {k : Int} {S : Str} (hS : S.cps.toList.length ≤ 3) (hS0 : S.cps.toList ≠ []) {names : List Str} (hn : names ≠ []) {rows : List D} (hr : rows.length < 16777216) {a3 a4 a6 a7 a8 s9 : Sl} :
    ∃ k' r x7 x8, Row.ok S names r ∧ T__law_told_4 c [.va p (drw ns k).1 (drw ns k).2, .va p1 .f (.str S), .va p2 .f (.lst (names.map .str)), a3, a4, .va none (.o .f) (.lst rows), a6, a7, a8, s9] =
      .nx [.va p (drw ns k').1 (drw ns k').2, .va p1 .f (.str S), .va p2 .f (.lst (names.map .str)), a3, a4, .va none (.o .f) (.lst (rows ++ [dRow r])), a6, x7, x8, .no] := by
  obtain ⟨k1, l1, hl1, e1⟩ := told_1 c ns hb (p := p) (p1 := p1) (k := k) hS (a2 := .va p2 .f (.lst (names.map .str))) (a3 := a3) (a4 := a4) (a5 := .va none (.o .f) (.lst rows)) (a6 := a6) (a7 := a7) (a8 := a8) (s9 := s9)
  obtain ⟨ys1, rfl, hy1, hy1l⟩ := signs_of hl1
  obtain ⟨hd, hhd, ehd⟩ : ∃ hd, hd ∈ S.cps.toList ∧ atI S.cps.toList 0 = some hd := by
    cases q : S.cps.toList with
    | nil => exact absurd q hS0
    | cons x r => exact ⟨x, List.mem_cons_self, by simp⟩
  have hz : S.length ≤ 16777216 := by
    show S.cps.size ≤ _
    simp at hS
    omega
  obtain ⟨some_, hs1, hs2, e2⟩ : ∃ sm : List Nat, (∀ x ∈ sm, x ∈ S.cps.toList) ∧ sm.length ≤ 3 ∧
      (orTE (frzD (useA tupC (consA (T__law_told_1 c) nilA))) (useA tupD (consA (frzD (use2 ixDD (name 1) (konst (.int 0)))) nilA))) [.va p (drw ns k).1 (drw ns k).2, .va p1 .f (.str S), .va p2 .f (.lst (names.map .str)), a3, a4, .va none (.o .f) (.lst rows), a6, a7, a8, s9] =
      .ok false .t .f (.tup (sm.map signD)) [.va p (drw ns k1).1 (drw ns k1).2, .va p1 .f (.str S), .va p2 .f (.lst (names.map .str)), a3, a4, .va none (.o .f) (.lst rows), a6, a7, a8, .no] := by
    by_cases hy : ys1 = []
    · subst hy
      refine ⟨[hd], by simpa using hhd, by simp, ?_⟩
      simp -implicitDefEqProofs (disch := decreasing_trivial_pre_omega) [List.findIdx?_cons, List.getElem?_cons_zero, List.getElem?_cons_succ, List.getElem?_nil, dec_le, dec_le', dec_lt, dec_lt', dec_eq, dec_ne, -getElem?_pos, -getElem?_neg, e1, hz, ehd, szO, signD]
    · refine ⟨ys1, hy1, by omega, ?_⟩
      have hy' : ys1.isEmpty = false := by cases ys1 <;> simp at hy ⊢
      simp [e1, hy']
  obtain ⟨k2, nx, hnx, e3⟩ : ∃ (k2 : Int) (nx : Option (List Str)), (∀ l, nx = some l → l.length ≤ 4 ∧ ∀ x ∈ l, x = "" ∨ ∃ c ∈ S.cps.toList, x = ⟨#[c]⟩) ∧
      (setS 8 (ifE (isB (use2 gtD (callE (f__law_take c) (consA (name 0) (consA (konst (.int 3)) nilA))) (konst (.int 0)))) (konst .non) (useA tupC (consA (T__law_told_2 c) nilA)))) [.va p (drw ns k1).1 (drw ns k1).2, .va p1 .f (.str S), .va p2 .f (.lst (names.map .str)), a3, a4, .va none (.o .f) (.lst rows), a6, .va none .f (.tup (some_.map signD)), a8, .no] =
      .nx [.va p (drw ns k2).1 (drw ns k2).2, .va p1 .f (.str S), .va p2 .f (.lst (names.map .str)), a3, a4, .va none (.o .f) (.lst rows), a6, .va none .f (.tup (some_.map signD)), .va none .f (dNexts nx), .no] := by
    obtain ⟨z, h0, h1, et⟩ := take_ c ns hb k1 3 (by decide)
    by_cases hz0 : 0 < z
    · refine ⟨k1 + 1, none, by simp, ?_⟩
      unfold drw at et ⊢
      simp -implicitDefEqProofs (disch := decreasing_trivial_pre_omega) [List.findIdx?_cons, List.getElem?_cons_zero, List.getElem?_cons_succ, List.getElem?_nil, dec_le, dec_le', dec_lt, dec_lt', dec_eq, dec_ne, -getElem?_pos, -getElem?_neg, et, hz0, dNexts]
    · obtain ⟨k2, l2, hl2, e4⟩ := told_2 c ns hb (p := p) (p1 := p1) (k := k1 + 1) hS (a2 := .va p2 .f (.lst (names.map .str))) (a3 := a3) (a4 := a4) (a5 := .va none (.o .f) (.lst rows)) (a6 := a6) (a7 := .va none .f (.tup (some_.map signD))) (a8 := a8) (s9 := .no)
      obtain ⟨ys2, rfl, hy2⟩ := str_of_nexts hl2
      refine ⟨k2, some ys2, fun l hl => ?_, ?_⟩
      · cases hl
        refine ⟨?_, hy2⟩
        have := hl2.length_le
        simp at this hS
        omega
      · unfold drw at et e4 ⊢
        simp -implicitDefEqProofs (disch := decreasing_trivial_pre_omega) [List.findIdx?_cons, List.getElem?_cons_zero, List.getElem?_cons_succ, List.getElem?_nil, dec_le, dec_le', dec_lt, dec_lt', dec_eq, dec_ne, -getElem?_pos, -getElem?_neg, et, hz0, e4, dNexts]
  obtain ⟨co, hco, ep⟩ := pick_ c ns hb k2 [.str "red", .str "blue", .str "dim"] (by simp) .f (.inl rfl)
  obtain ⟨k4, de, hde, ed⟩ := deedT c ns hb (k2 + 1) names hn .f (.inl rfl)
  obtain ⟨co, hco, rfl⟩ : ∃ x : Str, x ∈ (["red", "blue", "dim"] : List Str) ∧ co = .str x := by simpa using hco
  refine ⟨k4, ⟨some_, nx, co, de⟩, .va none .f (.tup (some_.map signD)), .va none .f (dNexts nx), ⟨hs1, hs2, hnx, by simpa using hco, hde⟩, ?_⟩
  unfold T__law_told_4 T__law_told_3
  unfold drw at e2 e3 ep ed ⊢
  rw [seqS_ap, setS_ap, e2]
  simp only [eo_bindS_ok, so_bind_nx, List.length_cons, List.length_nil, Nat.reduceAdd, Nat.reduceLT, if_true, seqS_ap]
  simp only [List.set_cons_succ, List.set_cons_zero]
  rw [e3]
  have nxf : (nameFD 8) [.va p (.o .f) (.lst [.lst (ns.map .int), .int k2]), .va p1 .f (.str S), .va p2 .f (.lst (names.map .str)), a3, a4, .va none (.o .f) (.lst rows), a6, .va none .f (.tup (some_.map signD)), .va none .f (dNexts nx), .no] = .ok true .t .f (dNexts nx) [.va p (.o .f) (.lst [.lst (ns.map .int), .int k2]), .va p1 .f (.str S), .va p2 .f (.lst (names.map .str)), a3, a4, .va none (.o .f) (.lst rows), a6, .va none .f (.tup (some_.map signD)), .va none .f (dNexts nx), .no] := by
    cases nx <;> simp [nameFD, nameF, noD, dNexts]
  simp -implicitDefEqProofs (disch := decreasing_trivial_pre_omega) [List.findIdx?_cons, List.getElem?_cons_zero, List.getElem?_cons_succ, List.getElem?_nil, dec_le, dec_le', dec_lt, dec_lt', dec_eq, dec_ne, -getElem?_pos, -getElem?_neg, ep, ed, hr, dRow] at nxf ⊢
/-- the rows of a mode -/
theorem told_rows (c : Cs) (ns : List Int) (hb : ns.length < 1000000) {p p1 p2 : Option Nat} {S : Str} (hS : S.cps.toList.length ≤ 3) (hS0 : S.cps.toList ≠ []) {names : List Str} (hn : names ≠ []) {a3 a4 : Sl} :
    ∀ (ds : List D) (rows : List Row) (k : Int) (a6 a7 a8 s9 : Sl), rows.length + ds.length ≤ 3 → (∀ r ∈ rows, r.ok S names) →
    ∃ (k' : Int) (rows' : List Row) (x6 x7 x8 x9 : Sl), rows'.length = rows.length + ds.length ∧ (∀ r ∈ rows', Row.ok S names r) ∧ loopS (putG 6) (T__law_told_4 c) ds [.va p (drw ns k).1 (drw ns k).2, .va p1 .f (.str S), .va p2 .f (.lst (names.map .str)), a3, a4, .va none (.o .f) (.lst (rows.map dRow)), a6, a7, a8, s9] =
      .nx [.va p (drw ns k').1 (drw ns k').2, .va p1 .f (.str S), .va p2 .f (.lst (names.map .str)), a3, a4, .va none (.o .f) (.lst (rows'.map dRow)), x6, x7, x8, x9]
  | [], rows, k, a6, a7, a8, s9, hl, hok => ⟨k, rows, a6, a7, a8, s9, by simp, hok, rfl⟩
  | d :: ds, rows, k, a6, a7, a8, s9, hl, hok => by
    simp only [List.length_cons] at hl
    obtain ⟨k1, r, x7, x8, hr, e⟩ := told_4 c ns hb (p := p) (p1 := p1) (p2 := p2) (k := k) hS hS0 hn (rows := rows.map dRow) (by simp; omega) (a3 := a3) (a4 := a4) (a6 := .va none .f d) (a7 := a7) (a8 := a8) (s9 := s9)
    obtain ⟨k', rows', y6, y7, y8, y9, h1, h2, e2⟩ := told_rows c ns hb (p := p) (p1 := p1) (p2 := p2) hS hS0 hn (a3 := a3) (a4 := a4) ds (rows ++ [r]) k1 (.va none .f d) x7 x8 .no (by simp; omega) (by
      intro x hx
      rcases List.mem_append.mp hx with hx | hx
      · exact hok x hx
      · rw [List.mem_singleton.mp hx]; exact hr)
    refine ⟨k', rows', y6, y7, y8, y9, by simp at h1 ⊢; omega, h2, ?_⟩
    rw [loopS_cons (ρ1 := [.va p (drw ns k).1 (drw ns k).2, .va p1 .f (.str S), .va p2 .f (.lst (names.map .str)), a3, a4, .va none (.o .f) (.lst (rows.map dRow)), .va none .f d, a7, a8, s9]) (by simp), e]
    simpa using e2
/-- one mode -/
theorem told_6 (c : Cs) (ns : List Int) (hb : ns.length < 1000000) {p p1 p2 : Option Nat} {k : Int} {S : Str} (hS : S.cps.toList.length ≤ 3) (hS0 : S.cps.toList ≠ []) {names : List Str} (hn : names ≠ []) {kvs : List (D × D)} (hk : kvs.length < 16777216) {nm : Str} (hne : ∀ kv ∈ kvs, kv.1 ≠ .str nm) {a5 a6 a7 a8 s9 : Sl} :
    ∃ k' md x5 x6 x7 x8 x9, Mode.ok S names md ∧ T__law_told_6 c [.va p (drw ns k).1 (drw ns k).2, .va p1 .f (.str S), .va p2 .f (.lst (names.map .str)), .va none (.o .f) (.dct kvs), .va none .f (.str nm), a5, a6, a7, a8, s9] =
      .nx [.va p (drw ns k').1 (drw ns k').2, .va p1 .f (.str S), .va p2 .f (.lst (names.map .str)), .va none (.o .f) (.dct (kvs ++ [(.str nm, dMode md)])), .va none .f (.str nm), x5, x6, x7, x8, x9] := by
  obtain ⟨z, h0, h1, et⟩ := take_ c ns hb k 4 (by decide)
  obtain ⟨k2, rows, x6, x7, x8, x9, hl, hok, e⟩ := told_rows c ns hb (p := p) (p1 := p1) (p2 := p2) hS hS0 hn (a3 := .va none (.o .f) (.dct kvs)) (a4 := .va none .f (.str nm)) (rangeD 0 z) [] (k + 1) a6 a7 a8 s9 (by simp [rangeD]; omega) (by simp)
  obtain ⟨co, hco, ep⟩ := pick_ c ns hb k2 [.str "dim", .str "red", .str "gray"] (by simp) .f (.inl rfl)
  obtain ⟨co, hco, rfl⟩ : ∃ x : Str, x ∈ (["dim", "red", "gray"] : List Str) ∧ co = .str x := by simpa using hco
  obtain ⟨z2, h2, h3, et2⟩ := take_ c ns hb (k2 + 1) 3 (by decide)
  obtain ⟨k4, de, hde, ed⟩ := deedT c ns hb (k2 + 1 + 1) names hn .f (.inl rfl)
  have hr : rng1 [z] = some z := range_rng1 h0 (by omega)
  have hrl : rows.length ≤ 3 := by
    rw [hl]; simp [rangeD]; omega
  by_cases hz : 0 < z2
  · refine ⟨k2 + 1 + 1, ⟨rows, co, .stay⟩, .va none (.o .f) (.lst (rows.map dRow)), x6, x7, x8, x9, ⟨hok, hrl, by simpa using hco, trivial⟩, ?_⟩
    unfold T__law_told_6 T__law_told_5
    unfold drw at et e ep et2 ⊢
    simp -implicitDefEqProofs (disch := decreasing_trivial_pre_omega) [List.findIdx?_cons, List.getElem?_cons_zero, List.getElem?_cons_succ, List.getElem?_nil, dec_le, dec_le', dec_lt, dec_lt', dec_eq, dec_ne, -getElem?_pos, -getElem?_neg, et, hr] at e ⊢
    simp -implicitDefEqProofs (disch := decreasing_trivial_pre_omega) [List.findIdx?_cons, List.getElem?_cons_zero, List.getElem?_cons_succ, List.getElem?_nil, dec_le, dec_le', dec_lt, dec_lt', dec_eq, dec_ne, -getElem?_pos, -getElem?_neg, e, ep, et2, hz, putIx, hk, putD_new hne, dMode, dDeed, keyOf]
  · refine ⟨k4, ⟨rows, co, de⟩, .va none (.o .f) (.lst (rows.map dRow)), x6, x7, x8, x9, ⟨hok, hrl, by simpa using hco, hde⟩, ?_⟩
    unfold T__law_told_6 T__law_told_5
    unfold drw at et e ep et2 ed ⊢
    simp -implicitDefEqProofs (disch := decreasing_trivial_pre_omega) [List.findIdx?_cons, List.getElem?_cons_zero, List.getElem?_cons_succ, List.getElem?_nil, dec_le, dec_le', dec_lt, dec_lt', dec_eq, dec_ne, -getElem?_pos, -getElem?_neg, et, hr] at e ⊢
    simp -implicitDefEqProofs (disch := decreasing_trivial_pre_omega) [List.findIdx?_cons, List.getElem?_cons_zero, List.getElem?_cons_succ, List.getElem?_nil, dec_le, dec_le', dec_lt, dec_lt', dec_eq, dec_ne, -getElem?_pos, -getElem?_neg, e, ep, et2, hz, ed, putIx, hk, putD_new hne, dMode, keyOf]
end K02

namespace K02
open PySem PySem.Spec PyProof.Rows L2 FL
local macro_rules | `(tactic| decreasing_trivial_pre_omega) => `(tactic| first | omega | (simp only [List.length_map, List.length_append, List.length_cons, List.length_nil, List.length_replicate, List.length_take, List.length_drop, mkS_length]; omega))
structure Told where
  S : Str
  ms : List (Str × Mode)
  first : Str
  deep : Int
def dMs (ms : List (Str × Mode)) : List (D × D) := ms.map fun p => (.str p.1, dMode p.2)
def dTold (t : Told) : D := .dct [(.str "signs", .str t.S), (.str "modes", .dct (dMs t.ms)), (.str "first", .str t.first), (.str "deep", .int t.deep)]
structure Told.ok (t : Told) : Prop where
  nm : ∃ j, 1 ≤ j ∧ j ≤ 3 ∧ t.ms.map (·.1) = (["m", "n", "o"] : List Str).take j
  md : ∀ p ∈ t.ms, p.2.ok t.S (t.ms.map (·.1))
  fi : t.first ∈ t.ms.map (·.1)
  d0 : 1 ≤ t.deep
  d1 : t.deep ≤ 3
theorem told_modes (c : Cs) (ns : List Int) (hb : ns.length < 1000000) {p p1 p2 : Option Nat} {S : Str} (hS : S.cps.toList.length ≤ 3) (hS0 : S.cps.toList ≠ []) {names : List Str} (hn : names ≠ []) :
    ∀ (rest : List Str) (pre : List (Str × Mode)) (k : Int) (a4 a5 a6 a7 a8 s9 : Sl), pre.length + rest.length ≤ 3 → (pre.map (·.1) ++ rest).Nodup →
    ∃ (k' : Int) (post : List (Str × Mode)) (x4 x5 x6 x7 x8 x9 : Sl), post.map (·.1) = rest ∧ (∀ p ∈ post, p.2.ok S names) ∧ loopS (putG 4) (T__law_told_6 c) (rest.map .str) [.va p (drw ns k).1 (drw ns k).2, .va p1 .f (.str S), .va p2 .f (.lst (names.map .str)), .va none (.o .f) (.dct (dMs pre)), a4, a5, a6, a7, a8, s9] =
      .nx [.va p (drw ns k').1 (drw ns k').2, .va p1 .f (.str S), .va p2 .f (.lst (names.map .str)), .va none (.o .f) (.dct (dMs (pre ++ post))), x4, x5, x6, x7, x8, x9]
  | [], pre, k, a4, a5, a6, a7, a8, s9, hl, hd => ⟨k, [], a4, a5, a6, a7, a8, s9, rfl, by simp, by simp⟩
  | nm :: rest, pre, k, a4, a5, a6, a7, a8, s9, hl, hd => by
    simp only [List.length_cons] at hl
    obtain ⟨k1, md, y5, y6, y7, y8, y9, hm, e⟩ := told_6 c ns hb (p := p) (p1 := p1) (p2 := p2) (k := k) hS hS0 hn (kvs := dMs pre) (by simp [dMs]; omega) (nm := nm) (by
      intro kv hkv
      obtain ⟨q, hq, rfl⟩ := List.mem_map.mp hkv
      intro he
      simp at he
      have := (List.nodup_append.mp hd).2.2 q.1 (List.mem_map_of_mem hq) nm List.mem_cons_self
      exact this he) (a5 := a5) (a6 := a6) (a7 := a7) (a8 := a8) (s9 := s9)
    obtain ⟨k2, post, x4, x5, x6, x7, x8, x9, h1, h2, e2⟩ := told_modes c ns hb (p := p) (p1 := p1) (p2 := p2) hS hS0 hn rest (pre ++ [(nm, md)]) k1 (.va none .f (.str nm)) y5 y6 y7 y8 y9 (by simp; omega) (by simpa using hd)
    refine ⟨k2, (nm, md) :: post, x4, x5, x6, x7, x8, x9, by simp [h1], ?_, ?_⟩
    · intro q hq
      rcases List.mem_cons.mp hq with rfl | hq
      · exact hm
      · exact h2 q hq
    · rw [List.map_cons, loopS_cons (ρ1 := [.va p (drw ns k).1 (drw ns k).2, .va p1 .f (.str S), .va p2 .f (.lst (names.map .str)), .va none (.o .f) (.dct (dMs pre)), .va none .f (.str nm), a5, a6, a7, a8, s9]) (by simp), e]
      simpa [dMs] using e2
theorem told_ (c : Cs) (ns : List Int) (hb : ns.length < 1000000) (k : Int) {S : Str} (hS : S.cps.toList.length ≤ 3) (hS0 : S.cps.toList ≠ []) :
    ∃ (k' : Int) (t : Told), t.S = S ∧ t.ok ∧ f__law_told c [drw ns k, (.f, .str S)] = .ret .f (dTold t) [drw ns k', (.f, .str S)] := by
  obtain ⟨z, h0, h1, et⟩ := take_ c ns hb k 3 (by decide)
  have hj : ∃ j : Nat, 1 ≤ j ∧ j ≤ 3 ∧ (1 + z) = (j : Int) := ⟨(1 + z).toNat, by omega, by omega, by omega⟩
  obtain ⟨j, hj1, hj3, hz⟩ := hj
  have hn : (["m", "n", "o"] : List Str).take j ≠ [] := by
    simp
    omega
  have hnd : ((["m", "n", "o"] : List Str).take j).Nodup := (by decide : (["m", "n", "o"] : List Str).Nodup).sublist (List.take_sublist _ _)
  obtain ⟨k1, ms, x4, x5, x6, x7, x8, x9, h1', h2, e⟩ := told_modes c ns hb (p := some 0) (p1 := some 1) (p2 := none) hS hS0 hn ((["m", "n", "o"] : List Str).take j) [] (k + 1) .no .no .no .no .no .no (by simp; omega) (by simpa using hnd)
  obtain ⟨fi, hfi, ep⟩ := pick_ c ns hb k1 (((["m", "n", "o"] : List Str).take j).map .str) (by simpa using hn) .f (.inl rfl)
  obtain ⟨fi, hfi, rfl⟩ := List.mem_map.mp hfi
  obtain ⟨z2, h2', h3, et2⟩ := take_ c ns hb (k1 + 1) 3 (by decide)
  refine ⟨k1 + 1 + 1, ⟨S, ms, fi, 1 + z2⟩, rfl, ⟨⟨j, hj1, hj3, h1'⟩, ?_, ?_, by simp; omega, by simp; omega⟩, ?_⟩
  · show ∀ p ∈ ms, p.2.ok S (ms.map (·.1))
    rw [h1']
    exact h2
  · show fi ∈ ms.map (·.1)
    rw [h1']
    simpa [← List.map_take] using hfi
  have hcut : cutD [.str "m", .str "n", .str "o"] none (some (1 + z)) = ((["m", "n", "o"] : List Str).take j).map .str := by
    rw [cutD_take (by omega), hz, List.map_take]
    rfl
  unfold f__law_told T__law_told T__law_told_8 T__law_told_7
  unfold drw at et e ep et2 ⊢
  simp -implicitDefEqProofs (disch := decreasing_trivial_pre_omega) [List.findIdx?_cons, List.getElem?_cons_zero, List.getElem?_cons_succ, List.getElem?_nil, dec_le, dec_le', dec_lt, dec_lt', dec_eq, dec_ne, -getElem?_pos, -getElem?_neg, et, hcut, dMs, -List.map_take] at e ⊢
  simp -implicitDefEqProofs (disch := decreasing_trivial_pre_omega) [List.findIdx?_cons, List.getElem?_cons_zero, List.getElem?_cons_succ, List.getElem?_nil, dec_le, dec_le', dec_lt, dec_lt', dec_eq, dec_ne, -getElem?_pos, -getElem?_neg, e, ep, et2, prsE, keyOf, mergeD, putD, dTold, dMs, -List.map_take]
end K02

namespace K02
open PySem PySem.Spec PyProof.Rows L2 FL
local macro_rules | `(tactic| decreasing_trivial_pre_omega) => `(tactic| first | omega | (simp only [List.length_map, List.length_append, List.length_cons, List.length_nil, List.length_replicate, List.length_take, List.length_drop, mkS_length]; omega))
theorem is_row_tup (c : Cs) (xs : List D) : f_is_row c [(.f, .tup xs)] = .ret .f (.bl true) [(.f, .tup xs)] := by
  unfold f_is_row T_is_row
  simp -implicitDefEqProofs (disch := decreasing_trivial_pre_omega) [List.findIdx?_cons, List.getElem?_cons_zero, List.getElem?_cons_succ, List.getElem?_nil, dec_le, dec_le', dec_lt, dec_lt', dec_eq, dec_ne, -getElem?_pos, -getElem?_neg, isiO_ap, tyIs]
theorem is_row_lst (c : Cs) (xs : List D) : f_is_row c [(.f, .lst xs)] = .ret .f (.bl true) [(.f, .lst xs)] := by
  unfold f_is_row T_is_row
  simp -implicitDefEqProofs (disch := decreasing_trivial_pre_omega) [List.findIdx?_cons, List.getElem?_cons_zero, List.getElem?_cons_succ, List.getElem?_nil, dec_le, dec_le', dec_lt, dec_lt', dec_eq, dec_ne, -getElem?_pos, -getElem?_neg, isiO_ap, tyIs]
theorem is_row_o (c : Cs) (xs : List D) : f_is_row c [(.o .f, .lst xs)] = .ret .f (.bl true) [(.o .f, .lst xs)] := by
  unfold f_is_row T_is_row
  simp -implicitDefEqProofs (disch := decreasing_trivial_pre_omega) [List.findIdx?_cons, List.getElem?_cons_zero, List.getElem?_cons_succ, List.getElem?_nil, dec_le, dec_le', dec_lt, dec_lt', dec_eq, dec_ne, -getElem?_pos, -getElem?_neg, isiO_ap, tyIs]
def isLet (x : Nat) : Bool := hasS "abcdefghijklmnopqrstuvwxyz" x
def isFig (x : Nat) : Bool := hasS "0123456789" x
def isNameB (l : List Nat) : Bool := decide (1 ≤ l.length) && decide (l.length ≤ 8) && (match l with
  | [] => false
  | x :: _ => isLet x) && l.all fun x => isLet x || isFig x
theorem is_name_1 (c : Cs) (l : List Nat) (hs : l.length ≤ 16777216) : T_is_name_1 c [.va (some 0) .f (.str (mkS l)), .no] = .ok false .t (.o .f) (.lst (l.map fun x => .bl (isLet x || isFig x))) [.va (some 0) .f (.str (mkS l)), .no] := by
  have e : lcL [1] (putG 1) yesB (orE (use2 inDD (name 1) (konst (.str "abcdefghijklmnopqrstuvwxyz"))) (use2 inDD (name 1) (konst (.str "0123456789")))) (l.map signD) [] [.va (some 0) .f (.str (mkS l)), .no] =
      some (l.map fun x => .bl (isLet x || isFig x), [.va (some 0) .f (.str (mkS l)), .no]) := by
    refine lcL_map l (fun a _ => ?_) hs
    unfold isLet isFig
    cases h : hasS "abcdefghijklmnopqrstuvwxyz" a <;> simp -implicitDefEqProofs (disch := decreasing_trivial_pre_omega) [List.findIdx?_cons, List.getElem?_cons_zero, List.getElem?_cons_succ, List.getElem?_nil, dec_le, dec_le', dec_lt, dec_lt', dec_eq, dec_ne, -getElem?_pos, -getElem?_neg, h]
  unfold T_is_name_1
  simp -implicitDefEqProofs (disch := decreasing_trivial_pre_omega) [List.findIdx?_cons, List.getElem?_cons_zero, List.getElem?_cons_succ, List.getElem?_nil, dec_le, dec_le', dec_lt, dec_lt', dec_eq, dec_ne, -getElem?_pos, -getElem?_neg, e]
theorem is_name_ (c : Cs) (l : List Nat) (hs : l.length ≤ 16777216) : f_is_name c [(.f, .str (mkS l))] = .ret .f (.bl (isNameB l)) [(.f, .str (mkS l))] := by
  unfold f_is_name T_is_name T_is_name_2
  cases l with
  | nil => simp -implicitDefEqProofs (disch := decreasing_trivial_pre_omega) [List.findIdx?_cons, List.getElem?_cons_zero, List.getElem?_cons_succ, List.getElem?_nil, dec_le, dec_le', dec_lt, dec_lt', dec_eq, dec_ne, -getElem?_pos, -getElem?_neg, isiO_ap, tyIs, isNameB]
  | cons x l =>
    have e := is_name_1 c (x :: l) hs
    simp only [List.length_cons] at hs
    by_cases h8 : (l.length : Int) + 1 ≤ 8
    · have h8' : l.length ≤ 7 := by omega
      cases hx : isLet x
      · have hx' := hx
        unfold isLet at hx'
        simp -implicitDefEqProofs (disch := decreasing_trivial_pre_omega) [List.findIdx?_cons, List.getElem?_cons_zero, List.getElem?_cons_succ, List.getElem?_nil, dec_le, dec_le', dec_lt, dec_lt', dec_eq, dec_ne, -getElem?_pos, -getElem?_neg, isiO_ap, tyIs, isNameB, hx, hx', h8']
      · have hx' := hx
        unfold isLet at hx'
        simp -implicitDefEqProofs (disch := decreasing_trivial_pre_omega) [List.findIdx?_cons, List.getElem?_cons_zero, List.getElem?_cons_succ, List.getElem?_nil, dec_le, dec_le', dec_lt, dec_lt', dec_eq, dec_ne, -getElem?_pos, -getElem?_neg, isiO_ap, tyIs, isNameB, hx, hx', h8', e]
    · have h8' : ¬ l.length ≤ 7 := by omega
      simp -implicitDefEqProofs (disch := decreasing_trivial_pre_omega) [List.findIdx?_cons, List.getElem?_cons_zero, List.getElem?_cons_succ, List.getElem?_nil, dec_le, dec_le', dec_lt, dec_lt', dec_eq, dec_ne, -getElem?_pos, -getElem?_neg, isiO_ap, tyIs, isNameB, h8', Nat.not_le.mp h8']
end K02

namespace K02
open PySem PySem.Spec PyProof.Rows L2 FL
local macro_rules | `(tactic| decreasing_trivial_pre_omega) => `(tactic| first | omega | (simp only [List.length_map, List.length_append, List.length_cons, List.length_nil, List.length_replicate, List.length_take, List.length_drop, mkS_length]; omega))
def isSignsB (S : Str) (l : List Str) : Bool := decide (l.length ≤ 12) && l.all fun x => decide (x.length = 1) && occB x S
theorem are_signs_lc (c : Cs) (S : Str) (a1 : Sl) (l : List Str) (hs : l.length ≤ 16777216) (hx : ∀ x ∈ l, x.length ≤ 16777216) :
    lcL [2] (putG 2) yesB (andE (use1 (isiO ["str"] (own_no c)) (name 2)) (andE (use2 eqDD (useA lenD (consA (name 2) nilA)) (konst (.int 1))) (use2 inDD (name 2) (name 0)))) (l.map .str) [] [.va (some 0) .f (.str S), a1, .no] =
      some (l.map fun x => .bl (decide (x.length = 1) && occB x S), [.va (some 0) .f (.str S), a1, .no]) := by
  refine lcL_map l (fun x hm => ?_) hs
  have h1 := hx x hm
  by_cases h : x.length = 1
  · have h' : ((x.length : Nat) : Int) = 1 := by omega
    simp -implicitDefEqProofs (disch := decreasing_trivial_pre_omega) [List.findIdx?_cons, List.getElem?_cons_zero, List.getElem?_cons_succ, List.getElem?_nil, dec_le, dec_le', dec_lt, dec_lt', dec_eq, dec_ne, -getElem?_pos, -getElem?_neg, isiO_ap, tyIs, h, h']
  · have h' : ¬ ((x.length : Nat) : Int) = 1 := by omega
    simp -implicitDefEqProofs (disch := decreasing_trivial_pre_omega) [List.findIdx?_cons, List.getElem?_cons_zero, List.getElem?_cons_succ, List.getElem?_nil, dec_le, dec_le', dec_lt, dec_lt', dec_eq, dec_ne, -getElem?_pos, -getElem?_neg, isiO_ap, tyIs, h, h']
theorem are_signs_tup (c : Cs) (S : Str) (l : List Str) (hs : l.length ≤ 16777216) (hx : ∀ x ∈ l, x.length ≤ 16777216) :
    f_are_signs c [(.f, .str S), (.f, .tup (l.map .str))] = .ret .f (.bl (isSignsB S l)) [(.f, .str S), (.f, .tup (l.map .str))] := by
  have e := are_signs_lc c S (.va (some 1) .f (.tup (l.map .str))) l hs hx
  unfold f_are_signs T_are_signs T_are_signs_2 T_are_signs_1 isSignsB
  by_cases h : (l.length : Int) ≤ 12
  · have h' : l.length ≤ 12 := by omega
    simp -implicitDefEqProofs (disch := decreasing_trivial_pre_omega) [List.findIdx?_cons, List.getElem?_cons_zero, List.getElem?_cons_succ, List.getElem?_nil, dec_le, dec_le', dec_lt, dec_lt', dec_eq, dec_ne, -getElem?_pos, -getElem?_neg, is_row_tup, e, h']
  · have h' : ¬ l.length ≤ 12 := by omega
    simp -implicitDefEqProofs (disch := decreasing_trivial_pre_omega) [List.findIdx?_cons, List.getElem?_cons_zero, List.getElem?_cons_succ, List.getElem?_nil, dec_le, dec_le', dec_lt, dec_lt', dec_eq, dec_ne, -getElem?_pos, -getElem?_neg, is_row_tup, h']
theorem are_signs_lst (c : Cs) (S : Str) (l : List Str) (hs : l.length ≤ 16777216) (hx : ∀ x ∈ l, x.length ≤ 16777216) :
    f_are_signs c [(.f, .str S), (.f, .lst (l.map .str))] = .ret .f (.bl (isSignsB S l)) [(.f, .str S), (.f, .lst (l.map .str))] := by
  have e := are_signs_lc c S (.va (some 1) .f (.lst (l.map .str))) l hs hx
  unfold f_are_signs T_are_signs T_are_signs_2 T_are_signs_1 isSignsB
  by_cases h : (l.length : Int) ≤ 12
  · have h' : l.length ≤ 12 := by omega
    simp -implicitDefEqProofs (disch := decreasing_trivial_pre_omega) [List.findIdx?_cons, List.getElem?_cons_zero, List.getElem?_cons_succ, List.getElem?_nil, dec_le, dec_le', dec_lt, dec_lt', dec_eq, dec_ne, -getElem?_pos, -getElem?_neg, is_row_lst, e, h']
  · have h' : ¬ l.length ≤ 12 := by omega
    simp -implicitDefEqProofs (disch := decreasing_trivial_pre_omega) [List.findIdx?_cons, List.getElem?_cons_zero, List.getElem?_cons_succ, List.getElem?_nil, dec_le, dec_le', dec_lt, dec_lt', dec_eq, dec_ne, -getElem?_pos, -getElem?_neg, is_row_lst, h']
def isNextsB (S : Str) (l : List Str) : Bool := decide (l.length ≤ 12) && isSignsB S (l.filter fun x : Str => decide (x ≠ ""))
theorem are_nexts_tup (c : Cs) (S : Str) (l : List Str) (hs : l.length ≤ 16777216) (hx : ∀ x ∈ l, x.length ≤ 16777216) :
    f_are_nexts c [(.f, .str S), (.f, .tup (l.map .str))] = .ret .f (.bl (isNextsB S l)) [(.f, .str S), (.f, .tup (l.map .str))] := by
  have e : lcL [2] (putG 2) (orB (notB (tru (use1 (isiO ["str"] (own_no c)) (name 2)))) (isB (use2 neDD (name 2) (konst (.str ""))))) (nameFD 2) (l.map .str) [] [.va (some 0) .f (.str S), .va (some 1) .f (.tup (l.map .str)), .no] =
      some ((l.filter fun x : Str => decide (x ≠ "")).map .str, [.va (some 0) .f (.str S), .va (some 1) .f (.tup (l.map .str)), .no]) := by
    rw [lcL_filter (h := fun x : Str => if x = "" then none else some (.str x)) l [] (fun x hm => ?_) (by simpa using hs)]
    · have : (l.filterMap fun x : Str => if x = "" then none else some (D.str x)) = (l.filter fun x : Str => decide (x ≠ "")).map .str := by
        clear hx hs
        induction l with
        | nil => rfl
        | cons x l ih => by_cases h : x = "" <;> simp [h, ih]
      simp [this]
    · by_cases h : x = ""
      · subst h
        simp -implicitDefEqProofs (disch := decreasing_trivial_pre_omega) [List.findIdx?_cons, List.getElem?_cons_zero, List.getElem?_cons_succ, List.getElem?_nil, dec_le, dec_le', dec_lt, dec_lt', dec_eq, dec_ne, -getElem?_pos, -getElem?_neg, isiO_ap, tyIs]
      · simp -implicitDefEqProofs (disch := decreasing_trivial_pre_omega) [List.findIdx?_cons, List.getElem?_cons_zero, List.getElem?_cons_succ, List.getElem?_nil, dec_le, dec_le', dec_lt, dec_lt', dec_eq, dec_ne, -getElem?_pos, -getElem?_neg, isiO_ap, tyIs, h]
  have e2 := are_signs_lst c S (l.filter fun x : Str => decide (x ≠ "")) (Nat.le_trans (List.length_filter_le _ _) hs) (fun x hm => hx x (List.mem_filter.mp hm).1)
  unfold f_are_nexts T_are_nexts T_are_nexts_2 T_are_nexts_1 isNextsB
  by_cases h : (l.length : Int) ≤ 12
  · have h' : l.length ≤ 12 := by omega
    simp -implicitDefEqProofs (disch := decreasing_trivial_pre_omega) [List.findIdx?_cons, List.getElem?_cons_zero, List.getElem?_cons_succ, List.getElem?_nil, dec_le, dec_le', dec_lt, dec_lt', dec_eq, dec_ne, -getElem?_pos, -getElem?_neg, is_row_tup, h'] at e e2 ⊢
    simp -implicitDefEqProofs (disch := decreasing_trivial_pre_omega) [List.findIdx?_cons, List.getElem?_cons_zero, List.getElem?_cons_succ, List.getElem?_nil, dec_le, dec_le', dec_lt, dec_lt', dec_eq, dec_ne, -getElem?_pos, -getElem?_neg, e, e2]
  · have h' : ¬ l.length ≤ 12 := by omega
    simp -implicitDefEqProofs (disch := decreasing_trivial_pre_omega) [List.findIdx?_cons, List.getElem?_cons_zero, List.getElem?_cons_succ, List.getElem?_nil, dec_le, dec_le', dec_lt, dec_lt', dec_eq, dec_ne, -getElem?_pos, -getElem?_neg, is_row_tup, h']
theorem valD_names {ms : List (Str × Mode)} {n : Str} : (valD (dMs ms) (.str n)).isSome = decide (n ∈ ms.map (·.1)) := by
  unfold valD dMs
  induction ms with
  | nil => rfl
  | cons p ms ih =>
    by_cases h : p.1 = n
    · simp [h]
    · have h2 : n ≠ p.1 := fun z => h z.symm
      simp only [List.map_cons, List.find?_cons, List.mem_cons] at ih ⊢
      have : decide (D.str p.1 = D.str n) = false := by simp [h]
      rw [this]
      simp only
      rw [ih]
      simp [h2]
theorem valD_mode {ms : List (Str × Mode)} {n : Str} : valD (dMs ms) (.str n) = (ms.lookup n).map dMode := by
  unfold valD dMs
  induction ms with
  | nil => rfl
  | cons p ms ih =>
    obtain ⟨m, md⟩ := p
    by_cases h : m = n
    · subst h
      simp
    · have h2 : (n == m) = false := by simpa using fun z : n = m => h z.symm
      have : decide (D.str m = D.str n) = false := by simp [h]
      simp only [List.map_cons, List.find?_cons, List.lookup_cons, this, h2]
      exact ih
theorem is_deed_ (c : Cs) (ms : List (Str × Mode)) (d : Deed) (hd : d.ok (ms.map (·.1))) :
    f_is_deed c [(.f, .dct (dMs ms)), (.f, dDeed d)] = .ret .f (.bl true) [(.f, .dct (dMs ms)), (.f, dDeed d)] := by
  unfold f_is_deed T_is_deed T_is_deed_2 T_is_deed_1
  cases d with
  | stay => simp -implicitDefEqProofs (disch := decreasing_trivial_pre_omega) [List.findIdx?_cons, List.getElem?_cons_zero, List.getElem?_cons_succ, List.getElem?_nil, dec_le, dec_le', dec_lt, dec_lt', dec_eq, dec_ne, -getElem?_pos, -getElem?_neg, dDeed, is_row_tup, isiO_ap, tyIs]
  | pop => simp -implicitDefEqProofs (disch := decreasing_trivial_pre_omega) [List.findIdx?_cons, List.getElem?_cons_zero, List.getElem?_cons_succ, List.getElem?_nil, dec_le, dec_le', dec_lt, dec_lt', dec_eq, dec_ne, -getElem?_pos, -getElem?_neg, dDeed, is_row_tup, isiO_ap, tyIs]
  | push n =>
    have hd : n ∈ ms.map (·.1) := hd
    simp -implicitDefEqProofs (disch := decreasing_trivial_pre_omega) [List.findIdx?_cons, List.getElem?_cons_zero, List.getElem?_cons_succ, List.getElem?_nil, dec_le, dec_le', dec_lt, dec_lt', dec_eq, dec_ne, -getElem?_pos, -getElem?_neg, dDeed, is_row_tup, isiO_ap, tyIs, valD_names, hd, -List.mem_map]
  | swap n =>
    have hd : n ∈ ms.map (·.1) := hd
    simp -implicitDefEqProofs (disch := decreasing_trivial_pre_omega) [List.findIdx?_cons, List.getElem?_cons_zero, List.getElem?_cons_succ, List.getElem?_nil, dec_le, dec_le', dec_lt, dec_lt', dec_eq, dec_ne, -getElem?_pos, -getElem?_neg, dDeed, is_row_tup, isiO_ap, tyIs, valD_names, hd, -List.mem_map]
end K02

namespace K02
open PySem PySem.Spec PyProof.Rows L2 FL
local macro_rules | `(tactic| decreasing_trivial_pre_omega) => `(tactic| first | omega | (simp only [List.length_map, List.length_append, List.length_cons, List.length_nil, List.length_replicate, List.length_take, List.length_drop, mkS_length]; omega))
theorem is_name_s (c : Cs) (s : Str) (hs : s.length ≤ 16777216) : f_is_name c [(.f, .str s)] = .ret .f (.bl (isNameB s.cps.toList)) [(.f, .str s)] := by
  have := is_name_ c s.cps.toList (by rw [Array.length_toList]; exact hs)
  rwa [← str_mkS] at this
theorem is_name_col (c : Cs) {s : Str} {l : List String} (h : s ∈ l.map Str.ofString) (hl : (l.all fun x => isNameB (x.toList.map Char.toNat) && decide (x.toList.length ≤ 100)) = true) : f_is_name c [(.f, .str s)] = .ret .f (.bl true) [(.f, .str s)] := by
  obtain ⟨x, hx, rfl⟩ := List.mem_map.mp h
  have := List.all_eq_true.mp hl x hx
  rw [Bool.and_eq_true, decide_eq_true_iff] at this
  rw [ofString_mkS, is_name_ c _ (by simp at this ⊢; omega), this.1]
theorem colour_name (c : Cs) {s : Str} (h : s ∈ (["red", "blue", "dim"] : List Str)) : f_is_name c [(.f, .str s)] = .ret .f (.bl true) [(.f, .str s)] :=
  is_name_col c (l := ["red", "blue", "dim"]) h (by decide)
theorem plain_name (c : Cs) {s : Str} (h : s ∈ (["dim", "red", "gray"] : List Str)) : f_is_name c [(.f, .str s)] = .ret .f (.bl true) [(.f, .str s)] :=
  is_name_col c (l := ["dim", "red", "gray"]) h (by decide)
theorem mode_name (c : Cs) {s : Str} (h : s ∈ (["m", "n", "o"] : List Str)) : f_is_name c [(.f, .str s)] = .ret .f (.bl true) [(.f, .str s)] :=
  is_name_col c (l := ["m", "n", "o"]) h (by decide)
theorem signs_strs (l : List Nat) : l.map signD = (l.map fun c => mkS [c]).map .str := by simp
theorem row_signs (c : Cs) {S : Str} {names : List Str} {r : Row} (h : r.ok S names) : f_are_signs c [(.f, .str S), (.f, .tup (r.signs.map signD))] = .ret .f (.bl true) [(.f, .str S), (.f, .tup (r.signs.map signD))] := by
  rw [signs_strs, are_signs_tup c S _ (by have := h.ln; simp; omega) (by simp)]
  have : isSignsB S (r.signs.map fun c => mkS [c]) = true := by
    unfold isSignsB
    rw [Bool.and_eq_true, decide_eq_true_iff, List.all_eq_true]
    refine ⟨by have := h.ln; simp; omega, fun x hx => ?_⟩
    obtain ⟨a, ha, rfl⟩ := List.mem_map.mp hx
    have := h.sg a ha
    simp [hasS] at this ⊢
    exact this
  rw [this]
theorem row_nexts (c : Cs) {S : Str} {names : List Str} {r : Row} (h : r.ok S names) {l : List Str} (hl : r.nexts = some l) : f_are_nexts c [(.f, .str S), (.f, .tup (l.map .str))] = .ret .f (.bl true) [(.f, .str S), (.f, .tup (l.map .str))] := by
  obtain ⟨h1, h2⟩ := h.nx l hl
  rw [are_nexts_tup c S l (by omega) (fun x hx => by
    rcases h2 x hx with rfl | ⟨a, _, rfl⟩
    · decide
    · simp)]
  have : isNextsB S l = true := by
    unfold isNextsB isSignsB
    rw [Bool.and_eq_true, Bool.and_eq_true, decide_eq_true_iff, decide_eq_true_iff, List.all_eq_true]
    refine ⟨by omega, Nat.le_trans (List.length_filter_le _ _) (by omega), fun x hx => ?_⟩
    obtain ⟨hx1, hx2⟩ := List.mem_filter.mp hx
    simp at hx2
    rcases h2 x hx1 with rfl | ⟨a, ha, rfl⟩
    · exact absurd rfl hx2
    · simp [hasS] at ha ⊢
      exact ha
  rw [this]
theorem check_row (c : Cs) {S : Str} {ms : List (Str × Mode)} {r : Row} (h : r.ok S (ms.map (·.1))) {p0 p1 p2 : Option Nat} {a2 a3 : Sl} {k : Int} :
    T_check_mode_1 c [.va p0 .f (.str S), .va p1 .f (.dct (dMs ms)), a2, a3, .va p2 .f (.int k), .va none .f (dRow r)] = .nx [.va p0 .f (.str S), .va p1 .f (.dct (dMs ms)), a2, a3, .va p2 .f (.int k), .va none .f (dRow r)] := by
  have e1 := row_signs c h
  have e2 := colour_name c h.co
  have e3 := is_deed_ c ms r.deed h.de
  unfold T_check_mode_1
  cases hn : r.nexts with
  | none => simp -implicitDefEqProofs (disch := decreasing_trivial_pre_omega) [List.findIdx?_cons, List.getElem?_cons_zero, List.getElem?_cons_succ, List.getElem?_nil, dec_le, dec_le', dec_lt, dec_lt', dec_eq, dec_ne, -getElem?_pos, -getElem?_neg, dRow, is_row_tup, e1, e2, e3, hn, dNexts]
  | some l =>
    have e4 := row_nexts c h hn
    simp -implicitDefEqProofs (disch := decreasing_trivial_pre_omega) [List.findIdx?_cons, List.getElem?_cons_zero, List.getElem?_cons_succ, List.getElem?_nil, dec_le, dec_le', dec_lt, dec_lt', dec_eq, dec_ne, -getElem?_pos, -getElem?_neg, dRow, is_row_tup, e1, e2, e3, e4, hn, dNexts]
theorem check_mode_ (c : Cs) {S : Str} {ms : List (Str × Mode)} {n : Str} {md : Mode} (hl : ms.lookup n = some md) (h : md.ok S (ms.map (·.1))) :
    f_check_mode c [(.f, .str S), (.f, .dct (dMs ms)), (.f, .str n)] = .ret .f .non [(.f, .str S), (.f, .dct (dMs ms)), (.f, .str n)] := by
  obtain ⟨ρ', e, x4, x5, rfl⟩ := loop_fold (tg := tupG 2 (consG (putG 4) (consG (putG 5) nilG))) (body := T_check_mode_1 c) (enc := fun p : Row × Nat => .tup [.int (p.2 : Nat), dRow p.1]) (σ := Unit) (f := fun _ _ => ())
    (R := fun _ ρ => ∃ x4 x5, ρ = [.va (some 0) .f (.str S), .va (some 1) .f (.dct (dMs ms)), .va (some 2) .f (.str n), .va none .f (dMode md), x4, x5]) md.rows.zipIdx ()
    [.va (some 0) .f (.str S), .va (some 1) .f (.dct (dMs ms)), .va (some 2) .f (.str n), .va none .f (dMode md), .no, .no] ⟨_, _, rfl⟩ (by
      rintro ⟨r, k⟩ hm _ ρ ⟨x4, x5, rfl⟩
      have hr : r ∈ md.rows := by
        obtain ⟨_, _, h⟩ := List.mem_zipIdx hm
        rw [h]
        exact List.getElem_mem _
      refine ⟨[.va (some 0) .f (.str S), .va (some 1) .f (.dct (dMs ms)), .va (some 2) .f (.str n), .va none .f (dMode md), .va none .f (.int (k : Nat)), .va none .f (dRow r)], by simp, _, .inl (check_row c (h.ro r hr)), _, _, rfl⟩)
  rw [← enumD_eq (f := dRow)] at e
  have e1 := plain_name c h.pl
  have e2 := is_deed_ c ms md.fin h.fi
  have h8 := h.ln
  have hv := valD_mode (ms := ms) (n := n)
  rw [hl] at hv
  unfold f_check_mode T_check_mode T_check_mode_4 T_check_mode_3 T_check_mode_2
  simp -implicitDefEqProofs (disch := decreasing_trivial_pre_omega) [List.findIdx?_cons, List.getElem?_cons_zero, List.getElem?_cons_succ, List.getElem?_nil, dec_le, dec_le', dec_lt, dec_lt', dec_eq, dec_ne, -getElem?_pos, -getElem?_neg, hv, dMode, is_row_tup] at e ⊢
  simp -implicitDefEqProofs (disch := decreasing_trivial_pre_omega) [List.findIdx?_cons, List.getElem?_cons_zero, List.getElem?_cons_succ, List.getElem?_nil, dec_le, dec_le', dec_lt, dec_lt', dec_eq, dec_ne, -getElem?_pos, -getElem?_neg, e, e1, e2]
end K02

namespace K02
open PySem PySem.Spec PyProof.Rows L2 FL
local macro_rules | `(tactic| decreasing_trivial_pre_omega) => `(tactic| first | omega | (simp only [List.length_map, List.length_append, List.length_cons, List.length_nil, List.length_replicate, List.length_take, List.length_drop, mkS_length]; omega))
theorem kept_ (c : Cs) (md : Mode) (hl : md.rows.length ≤ 16777216) : f_kept c [(.f, dMode md)] = .ret .f (dMode md) [(.f, dMode md)] := by
  have e : lcL [5, 6, 7, 8] (tupG 4 (consG (putG 5) (consG (putG 6) (consG (putG 7) (consG (putG 8) nilG))))) yesB (useA tupD (consA (frzD (useA tupC (consA (name 5) nilA))) (consA (ifE (isB (use2 (isD id) (name 6) (konst .non))) (konst .non) (frzD (useA tupC (consA (name 6) nilA)))) (consA (nameFD 7) (consA (frzD (useA tupC (consA (name 8) nilA))) nilA)))))
      (md.rows.map dRow) [] [.va (some 0) .f (dMode md), .va none .f (.tup (md.rows.map dRow)), .va none .f (.str md.plain), .va none .f (dDeed md.fin), .no, .no, .no, .no, .no] =
      some (md.rows.map dRow, [.va (some 0) .f (dMode md), .va none .f (.tup (md.rows.map dRow)), .va none .f (.str md.plain), .va none .f (dDeed md.fin), .no, .no, .no, .no, .no]) := by
    refine lcL_map md.rows (fun r _ => ?_) hl
    obtain ⟨sg, nx, co, de⟩ := r
    cases nx <;> cases de <;> simp -implicitDefEqProofs (disch := decreasing_trivial_pre_omega) [List.findIdx?_cons, List.getElem?_cons_zero, List.getElem?_cons_succ, List.getElem?_nil, dec_le, dec_le', dec_lt, dec_lt', dec_eq, dec_ne, -getElem?_pos, -getElem?_neg, dRow, dNexts, dDeed]
  unfold f_kept T_kept T_kept_3 T_kept_2 T_kept_1
  cases hf : md.fin <;> simp -implicitDefEqProofs (disch := decreasing_trivial_pre_omega) [List.findIdx?_cons, List.getElem?_cons_zero, List.getElem?_cons_succ, List.getElem?_nil, dec_le, dec_le', dec_lt, dec_lt', dec_eq, dec_ne, -getElem?_pos, -getElem?_neg, dMode, dDeed, hf] at e ⊢ <;> simp -implicitDefEqProofs (disch := decreasing_trivial_pre_omega) [List.findIdx?_cons, List.getElem?_cons_zero, List.getElem?_cons_succ, List.getElem?_nil, dec_le, dec_le', dec_lt, dec_lt', dec_eq, dec_ne, -getElem?_pos, -getElem?_neg, e]
def nmM : Str := "m"
def nmN : Str := "n"
def nmO : Str := "o"
def namesOk (ms : List (Str × Mode)) : Prop := ∃ j, 1 ≤ j ∧ j ≤ 3 ∧ ms.map (·.1) = (["m", "n", "o"] : List Str).take j
theorem names_cases {ms : List (Str × Mode)} (h : namesOk ms) : (∃ a, ms = [(nmM, a)]) ∨ (∃ a b, ms = [(nmM, a), (nmN, b)]) ∨ ∃ a b c, ms = [(nmM, a), (nmN, b), (nmO, c)] := by
  obtain ⟨j, h1, h3, e⟩ := h
  have hj : j = 1 ∨ j = 2 ∨ j = 3 := by omega
  rcases hj with rfl | rfl | rfl
  · match ms, e with
    | [(x, a)], e => simp at e; subst e; exact .inl ⟨a, rfl⟩
  · match ms, e with
    | [(x, a), (y, b)], e => simp at e; obtain ⟨rfl, rfl⟩ := e; exact .inr (.inl ⟨a, b, rfl⟩)
  · match ms, e with
    | [(x, a), (y, b), (z, c)], e => simp at e; obtain ⟨rfl, rfl, rfl⟩ := e; exact .inr (.inr ⟨a, b, c, rfl⟩)
theorem names_sorted {ms : List (Str × Mode)} (h : namesOk ms) : sortedD [(.f, .dct (dMs ms))] = some (.o .f, .lst (ms.map fun p => .str p.1)) := by
  have s1 : sortS [nmM] = [nmM] := by decide
  have s2 : sortS [nmM, nmN] = [nmM, nmN] := by decide
  have s3 : sortS [nmM, nmN, nmO] = [nmM, nmN, nmO] := by decide
  have e : (dMs ms).map (·.1) = ms.map fun p => .str p.1 := by simp [dMs]
  have hs : sortS (ms.map (·.1)) = ms.map (·.1) ∧ (ms.map (·.1)).length < 64 := by
    rcases names_cases h with ⟨a, rfl⟩ | ⟨a, b, rfl⟩ | ⟨a, b, c, rfl⟩
    · exact ⟨s1, by simp⟩
    · exact ⟨s2, by simp⟩
    · exact ⟨s3, by simp⟩
  rw [sortedD_d (xs := ms.map (·.1)) (by rw [e]; exact strsD_map) hs.2, hs.1]
  simp
theorem names_len {ms : List (Str × Mode)} (h : namesOk ms) : 1 ≤ ms.length ∧ ms.length ≤ 3 := by
  rcases names_cases h with ⟨a, rfl⟩ | ⟨a, b, rfl⟩ | ⟨a, b, c, rfl⟩ <;> simp
theorem names_nodup {ms : List (Str × Mode)} (h : namesOk ms) : (ms.map (·.1)).Nodup := by
  obtain ⟨j, _, _, e⟩ := h
  rw [e]
  exact (by decide : (["m", "n", "o"] : List Str).Nodup).sublist (List.take_sublist _ _)
theorem names_mem {ms : List (Str × Mode)} (h : namesOk ms) {p : Str × Mode} (hp : p ∈ ms) : p.1 ∈ (["m", "n", "o"] : List Str) := by
  obtain ⟨j, _, _, e⟩ := h
  have : p.1 ∈ ms.map (·.1) := List.mem_map_of_mem hp
  rw [e] at this
  exact List.mem_of_mem_take this
theorem lookup_mem {ms : List (Str × Mode)} (h : (ms.map (·.1)).Nodup) {p : Str × Mode} (hp : p ∈ ms) : ms.lookup p.1 = some p.2 := by
  induction ms with
  | nil => cases hp
  | cons q ms ih =>
    obtain ⟨a, b⟩ := q
    rcases List.mem_cons.mp hp with rfl | hq
    · simp
    · simp only [List.map_cons, List.nodup_cons] at h
      have : (p.1 == a) = false := by
        rw [beq_eq_false_iff_ne]
        rintro rfl
        exact h.1 (List.mem_map_of_mem hq)
      rw [List.lookup_cons, this]
      exact ih h.2 hq
theorem is_number_ (c : Cs) (i : Int) : f_is_number c [(.f, .int i)] = .ret .f (.bl (decide (0 ≤ i))) [(.f, .int i)] := by
  unfold f_is_number T_is_number
  simp -implicitDefEqProofs (disch := decreasing_trivial_pre_omega) [List.findIdx?_cons, List.getElem?_cons_zero, List.getElem?_cons_succ, List.getElem?_nil, dec_le, dec_le', dec_lt, dec_lt', dec_eq, dec_ne, -getElem?_pos, -getElem?_neg, isiO_ap, tyIs]
structure signsOk (S : Str) : Prop where
  nd : S.cps.toList.Nodup
  l0 : 1 ≤ S.cps.size
  l6 : S.cps.size ≤ 6
  nl : hasS S 10 = false
def srtS' (S : Str) : Str := Txt.join "" (sortS (S.cps.toList.map fun c => mkS [c]))
theorem nl_str : (Str.ofString "\n") = mkS [10] := by decide
theorem init_signs (c : Cs) {S : Str} (h : signsOk S) {a0 a2 a3 a4 a5 : Sl} {p : Option Nat} : T_Book___init___14 c [a0, .va p .f (.str S), a2, a3, a4, a5, .no] = T_Book___init___12 c [a0, .va p .f (.str S), a2, a3, a4, a5, .no] := by
  obtain ⟨h1, h2, h3, h4⟩ := h
  have hl : S.length = S.cps.size := rfl
  have e : dcL [6] (putG 6) yesB (nameFD 6) (konst (.bl true)) (S.cps.toList.map signD) [] [a0, .va p .f (.str S), a2, a3, a4, a5, .no] = some (S.cps.toList.map fun x => (signD x, .bl true), [a0, .va p .f (.str S), a2, a3, a4, a5, .no]) := by
    rw [dcL_map (h := fun x => (signD x, .bl true)) S.cps.toList [] (fun x _ => by simp -implicitDefEqProofs (disch := decreasing_trivial_pre_omega) [List.findIdx?_cons, List.getElem?_cons_zero, List.getElem?_cons_succ, List.getElem?_nil, dec_le, dec_le', dec_lt, dec_lt', dec_eq, dec_ne, -getElem?_pos, -getElem?_neg]) (by simp; omega), mergeD_nil]
    rw [List.map_map]
    exact List.Pairwise.map _ (fun a b hab e => hab (by simpa using e)) h1
  have g1 : (1 : Int) ≤ S.cps.size := by omega
  have g2 : (S.cps.size : Int) ≤ 6 := by omega
  unfold T_Book___init___14 T_Book___init___13 T_Book___init___1
  simp -implicitDefEqProofs (disch := decreasing_trivial_pre_omega) [List.findIdx?_cons, List.getElem?_cons_zero, List.getElem?_cons_succ, List.getElem?_nil, dec_le, dec_le', dec_lt, dec_lt', dec_eq, dec_ne, -getElem?_pos, -getElem?_neg, isiO_ap, tyIs, nl_str, h4, hl, -signD_ap] at e ⊢
  simp -implicitDefEqProofs (disch := decreasing_trivial_pre_omega) [List.findIdx?_cons, List.getElem?_cons_zero, List.getElem?_cons_succ, List.getElem?_nil, dec_le, dec_le', dec_lt, dec_lt', dec_eq, dec_ne, -getElem?_pos, -getElem?_neg, e, hl, -signD_ap]
end K02

namespace K02
open PySem PySem.Spec PyProof.Rows L2 FL
local macro_rules | `(tactic| decreasing_trivial_pre_omega) => `(tactic| first | omega | (simp only [List.length_map, List.length_append, List.length_cons, List.length_nil, List.length_replicate, List.length_take, List.length_drop, mkS_length]; omega))
structure Told.ok2 (t : Told) : Prop where
  o : t.ok
  s : signsOk t.S
def bookFs (t : Told) : List (Str × D) := [("signs", .str (srtS' t.S)), ("modes", .dct (dMs t.ms)), ("first", .str t.first), ("deep", .int t.deep)]
def dBook (c : Cs) (t : Told) : D := .obj c.Book (bookFs t)
theorem sum_const {α : Type} (l : List α) (f : α → Nat) (k : Nat) (h : ∀ a ∈ l, f a = k) : (l.map f).sum = l.length * k := by
  induction l with
  | nil => simp
  | cons a l ih =>
    rw [List.map_cons, List.sum_cons, h a List.mem_cons_self, ih fun a m => h a (List.mem_cons_of_mem _ m)]
    simp [Nat.succ_mul]
    omega
theorem insS_len (x : Str) : ∀ l : List Str, (insS x l).length = l.length + 1
  | [] => rfl
  | y :: l => by
    unfold insS
    split
    · rfl
    · simp [insS_len x l]
theorem sortS_len : ∀ l : List Str, (sortS l).length = l.length
  | [] => rfl
  | x :: l => by
    show (insS x (sortS l)).length = _
    rw [insS_len, sortS_len l]
    rfl
theorem insS_mem (x z : Str) : ∀ l : List Str, z ∈ insS x l ↔ z = x ∨ z ∈ l
  | [] => by simp [insS]
  | y :: l => by
    unfold insS
    split
    · simp
    · simp only [List.mem_cons, insS_mem x z l]
      constructor
      · rintro (h | h | h) <;> simp [h]
      · rintro (h | h | h) <;> simp [h]
theorem sortS_mem (z : Str) : ∀ l : List Str, z ∈ sortS l ↔ z ∈ l
  | [] => by simp [sortS]
  | x :: l => by
    show z ∈ insS x (sortS l) ↔ _
    rw [insS_mem, sortS_mem z l, List.mem_cons]
theorem nodup_str {α : Type} {l : List α} {f : α → Str} {g : α → D} (h : (l.map f).Nodup) : (l.map ((fun kv : D × D => kv.1) ∘ fun p => (D.str (f p), (g p : D)))).Nodup := by
  have : (l.map ((fun kv : D × D => kv.1) ∘ fun p => (D.str (f p), (g p : D)))) = (l.map f).map D.str := by
    rw [List.map_map]
    rfl
  rw [this]
  exact List.Pairwise.map _ (fun a b hab e => hab (by simpa using e)) h
theorem init_ (c : Cs) {t : Told} (h : t.ok2) : f_Book___init__ c [(.r [], .obj c.Book []), (.f, .str t.S), (.f, .dct (dMs t.ms)), (.f, .str t.first), (.f, .int t.deep)] =
    .ret .f .non [(.r [.f, .f, .f, .f], dBook c t), (.f, .str t.S), (.f, .dct (dMs t.ms)), (.f, .str t.first), (.f, .int t.deep)] := by
  obtain ⟨⟨hn, hm, hf, hd0, hd1⟩, hs⟩ := h
  have hlen := names_len hn
  have e14 := init_signs c hs (p := some 1) (a0 := .va (some 0) (.r []) (.obj c.Book [])) (a2 := .va (some 2) .f (.dct (dMs t.ms))) (a3 := .va (some 3) .f (.str t.first)) (a4 := .va (some 4) .f (.int t.deep)) (a5 := .no)
  have hdm : (dMs t.ms).length = t.ms.length := by simp [dMs]
  have hkey : (dMs t.ms).map (·.1) = (t.ms.map (·.1)).map .str := by simp [dMs]
  have e2 : lcL [5] (putG 5) yesB (frzD (callE (f_is_name c) (consA (name 5) nilA))) (t.ms.map fun p => D.str p.1) [] [.va (some 0) (.r []) (.obj c.Book []), .va (some 1) .f (.str t.S), .va (some 2) .f (.dct (dMs t.ms)), .va (some 3) .f (.str t.first), .va (some 4) .f (.int t.deep), .no, .no] =
      some (t.ms.map (fun _ => .bl true), [.va (some 0) (.r []) (.obj c.Book []), .va (some 1) .f (.str t.S), .va (some 2) .f (.dct (dMs t.ms)), .va (some 3) .f (.str t.first), .va (some 4) .f (.int t.deep), .no, .no]) := by
    refine lcL_map (enc := fun p : Str × Mode => D.str p.1) (h := fun _ => .bl true) t.ms (fun p hp => ?_) (by omega)
    have := mode_name c (names_mem hn hp)
    simp -implicitDefEqProofs (disch := decreasing_trivial_pre_omega) [List.findIdx?_cons, List.getElem?_cons_zero, List.getElem?_cons_succ, List.getElem?_nil, dec_le, dec_le', dec_lt, dec_lt', dec_eq, dec_ne, -getElem?_pos, -getElem?_neg, this]
  obtain ⟨ρ', e3, x5, rfl⟩ := loop_fold (tg := putG 5) (body := T_Book___init___3 c) (enc := fun p : Str × Mode => D.str p.1) (σ := Unit) (f := fun _ _ => ())
    (R := fun _ ρ => ∃ x5, ρ = [.va (some 0) (.r []) (.obj c.Book []), .va (some 1) .f (.str t.S), .va (some 2) .f (.dct (dMs t.ms)), .va (some 3) .f (.str t.first), .va (some 4) .f (.int t.deep), x5, .no]) t.ms () [.va (some 0) (.r []) (.obj c.Book []), .va (some 1) .f (.str t.S), .va (some 2) .f (.dct (dMs t.ms)), .va (some 3) .f (.str t.first), .va (some 4) .f (.int t.deep), .no, .no] ⟨_, rfl⟩ (by
      rintro p hp _ ρ ⟨x5, rfl⟩
      have := check_mode_ c (S := t.S) (lookup_mem (names_nodup hn) hp) (hm p hp)
      refine ⟨[.va (some 0) (.r []) (.obj c.Book []), .va (some 1) .f (.str t.S), .va (some 2) .f (.dct (dMs t.ms)), .va (some 3) .f (.str t.first), .va (some 4) .f (.int t.deep), .va none .f (.str p.1), .no], by simp, [.va (some 0) (.r []) (.obj c.Book []), .va (some 1) .f (.str t.S), .va (some 2) .f (.dct (dMs t.ms)), .va (some 3) .f (.str t.first), .va (some 4) .f (.int t.deep), .va none .f (.str p.1), .no], .inl ?_, _, rfl⟩
      unfold T_Book___init___3
      simp -implicitDefEqProofs (disch := decreasing_trivial_pre_omega) [List.findIdx?_cons, List.getElem?_cons_zero, List.getElem?_cons_succ, List.getElem?_nil, dec_le, dec_le', dec_lt, dec_lt', dec_eq, dec_ne, -getElem?_pos, -getElem?_neg, this])
  have e4 : ∀ x0, dcL [5] (putG 5) yesB (nameFD 5) (frzD (callE (f_kept c) (consA (frzD (use2 ixDD (name 2) (name 5))) nilA))) (t.ms.map fun p => D.str p.1) [] [x0, .va (some 1) .f (.str t.S), .va (some 2) .f (.dct (dMs t.ms)), .va (some 3) .f (.str t.first), .va (some 4) .f (.int t.deep), .no, .no] =
      some (dMs t.ms, [x0, .va (some 1) .f (.str t.S), .va (some 2) .f (.dct (dMs t.ms)), .va (some 3) .f (.str t.first), .va (some 4) .f (.int t.deep), .no, .no]) := by
    intro x0
    rw [dcL_map (h := fun p : Str × Mode => (.str p.1, dMode p.2)) t.ms [] (fun p hp => ?_) (by simp; omega), mergeD_nil]
    · rfl
    · rw [List.map_map]
      exact nodup_str (names_nodup hn)
    · have h1 := kept_ c p.2 (by have := (hm p hp).ln; omega)
      have h2 := valD_mode (ms := t.ms) (n := p.1)
      rw [lookup_mem (names_nodup hn) hp] at h2
      simp -implicitDefEqProofs (disch := decreasing_trivial_pre_omega) [List.findIdx?_cons, List.getElem?_cons_zero, List.getElem?_cons_succ, List.getElem?_nil, dec_le, dec_le', dec_lt, dec_lt', dec_eq, dec_ne, -getElem?_pos, -getElem?_neg, h1, h2]
  have hsl : t.S.length = t.S.cps.size := rfl
  have e5 : joinD "" (.o .f, .lst ((sortS (t.S.cps.toList.map fun c => mkS [c])).map .str)) = some (.f, .str (srtS' t.S)) := by
    refine joinD_ap rfl strsD_strs ?_
    rw [sum_const _ _ 1 (fun a ha => ?_), sortS_len]
    · have := hs.l6
      show _ + _ * 0 ≤ _
      simp
      omega
    · rw [sortS_mem] at ha
      obtain ⟨x, _, rfl⟩ := List.mem_map.mp ha
      simp
  have hso := names_sorted hn
  have hss := sortedD_s (z := t.S) (by rw [hsl]; have := hs.l6; omega)
  have hfv : (valD (dMs t.ms) (.str t.first)).isSome = true := by
    rw [valD_names]
    simpa using hf
  unfold f_Book___init__ T_Book___init__
  rw [bodyF_ap]
  show bodyK _ (T_Book___init___14 c [.va (some 0) (.r []) (.obj c.Book []), .va (some 1) .f (.str t.S), .va (some 2) .f (.dct (dMs t.ms)), .va (some 3) .f (.str t.first), .va (some 4) .f (.int t.deep), .no, .no]) = _
  rw [e14]
  unfold T_Book___init___12 T_Book___init___11 T_Book___init___10 T_Book___init___9 T_Book___init___8 T_Book___init___7 T_Book___init___6 T_Book___init___5 T_Book___init___4 T_Book___init___2
  have ek : (dMs t.ms).map (·.1) = t.ms.map (fun p => D.str p.1) := by simp [dMs]
  have g1 : (1 : Int) ≤ (t.ms.length : Nat) := by omega
  have g2 : ((t.ms.length : Nat) : Int) ≤ 4 := by omega
  simp -implicitDefEqProofs (disch := decreasing_trivial_pre_omega) [List.findIdx?_cons, List.getElem?_cons_zero, List.getElem?_cons_succ, List.getElem?_nil, dec_le, dec_le', dec_lt, dec_lt', dec_eq, dec_ne, -getElem?_pos, -getElem?_neg, isiO_ap, tyIs, hdm, ek, e2, is_number_, hso, e3, hfv, hss, e5, e4, okF_signs, okF_modes, okF_first, okF_deep, putFD, allM, dBook, bookFs]
end K02

namespace K02
open PySem PySem.Spec PyProof.Rows L2 FL
local macro_rules | `(tactic| decreasing_trivial_pre_omega) => `(tactic| first | omega | (simp only [List.length_map, List.length_append, List.length_cons, List.length_nil, List.length_replicate, List.length_take, List.length_drop, mkS_length]; omega))
/-! ### the mirror -/
def topOf (st : List Str) : Str := st.getLast?.getD ""
def dSt (st : List Str) : D := .tup (st.map .str)
def modeOf (ms : List (Str × Mode)) (n : Str) : Mode := (ms.lookup n).getD ⟨[], "", .stay⟩
def rowHit (x : Nat) (late : Str) (r : Row) : Bool := (r.signs.any fun c => decide (c = x)) && (match r.nexts with
  | none => true
  | some l => l.any fun y => decide (y = late))
def rowM (md : Mode) (x : Nat) (late : Str) : Str × Deed := match md.rows.find? (rowHit x late) with
  | some r => (r.colour, r.deed)
  | none => (md.plain, .stay)
def doneM (deep : Int) (st : List Str) : Deed → List Str
  | .stay => st
  | .pop => if 1 < st.length then st.dropLast else st
  | .push n => if (st.length : Int) < deep then st ++ [n] else st
  | .swap n => st.dropLast ++ [n]
def endM (t : Told) : Nat → List Str → List Str → List Str
  | 0, _, st => st
  | f + 1, met, st => if topOf st ∈ met then st else endM t f (met ++ [topOf st]) (doneM t.deep st (modeOf t.ms (topOf st)).fin)
def headS : List Nat → Str
  | [] => ""
  | x :: _ => mkS [x]
def walkM (t : Told) : List Str → List Nat → List Str × List Str
  | st, [] => ([], st)
  | st, x :: r => ((rowM (modeOf t.ms (topOf st)) x (headS r)).1 :: (walkM t (doneM t.deep st (rowM (modeOf t.ms (topOf st)) x (headS r)).2) r).1, (walkM t (doneM t.deep st (rowM (modeOf t.ms (topOf st)) x (headS r)).2) r).2)
def endOf (t : Told) (st : List Str) : List Str := endM t (t.ms.length + 1) [] st
def lineM (t : Told) (st : List Str) (l : List Nat) : List Str × List Str := ((walkM t st l).1, endOf t (walkM t st l).2)
structure StOk (t : Told) (st : List Str) : Prop where
  ne : st ≠ []
  mem : ∀ n ∈ st, n ∈ t.ms.map (·.1)
  ln : st.length ≤ 4
  dp : (st.length : Int) ≤ t.deep
section
variable {t : Told} {st : List Str}
theorem topOf_get (h : st ≠ []) : atI (st.map D.str) (-1) = some (.str (topOf st)) := by
  rw [atI_last (by simpa using h)]
  simp only [List.getLast_map, topOf, List.getLast?_eq_some_getLast h, Option.getD_some]
theorem topOf_mem (h : st ≠ []) : topOf st ∈ st := by
  unfold topOf
  rw [List.getLast?_eq_some_getLast h]
  exact List.getLast_mem h
theorem mode_get {n : Str} (h : n ∈ t.ms.map (·.1)) : valD (dMs t.ms) (.str n) = some (dMode (modeOf t.ms n)) ∧ (n, modeOf t.ms n) ∈ t.ms := by
  rw [valD_mode]
  unfold modeOf
  generalize t.ms = ms at h
  induction ms with
  | nil => cases h
  | cons p ms ih =>
    obtain ⟨m, md⟩ := p
    by_cases e : n = m
    · subst e
      simp
    · have e2 : (n == m) = false := by simpa using e
      have h2 : n ∈ ms.map (·.1) := by simpa [e] using h
      obtain ⟨h3, h4⟩ := ih h2
      rw [List.lookup_cons, e2]
      exact ⟨h3, List.mem_cons_of_mem _ h4⟩
theorem mode_ok (ht : t.ok2) {n : Str} (h : n ∈ t.ms.map (·.1)) : (modeOf t.ms n).ok t.S (t.ms.map (·.1)) := ht.o.md _ (mode_get h).2
theorem rowM_ok {S : Str} {names : List Str} {md : Mode} (h : md.ok S names) (x : Nat) (late : Str) : (rowM md x late).2.ok names := by
  unfold rowM
  cases e : md.rows.find? (rowHit x late) with
  | none => exact trivial
  | some r => exact (h.ro r (List.mem_of_find?_eq_some e)).de
theorem doneM_ok (ht : t.ok2) (h : StOk t st) {d : Deed} (hd : d.ok (t.ms.map (·.1))) : StOk t (doneM t.deep st d) := by
  obtain ⟨h1, h2, h3, h4⟩ := h
  have hdeep := ht.o.d1
  cases d with
  | stay => exact ⟨h1, h2, h3, h4⟩
  | pop =>
    simp only [doneM]
    by_cases hl : 1 < st.length
    · rw [if_pos hl]
      refine ⟨fun e => ?_, fun n hn => h2 n (List.dropLast_subset _ hn), by simp; omega, by simp; omega⟩
      have := congrArg List.length e
      simp at this
      omega
    · rw [if_neg hl]
      exact ⟨h1, h2, h3, h4⟩
  | push n =>
    simp only [doneM]
    by_cases hl : (st.length : Int) < t.deep
    · rw [if_pos hl]
      refine ⟨by simp, fun m hm => ?_, by simp; omega, by simp; omega⟩
      rcases List.mem_append.mp hm with hm | hm
      · exact h2 m hm
      · rw [List.mem_singleton.mp hm]
        exact hd
    · rw [if_neg hl]
      exact ⟨h1, h2, h3, h4⟩
  | swap n =>
    simp only [doneM]
    have := List.length_pos_iff.mpr h1
    refine ⟨by simp, fun m hm => ?_, by simp; omega, by simp; omega⟩
    rcases List.mem_append.mp hm with hm | hm
    · exact h2 m (List.dropLast_subset _ hm)
    · rw [List.mem_singleton.mp hm]
      exact hd
theorem endM_ok (ht : t.ok2) : ∀ (f : Nat) (met : List Str) {st : List Str}, StOk t st → StOk t (endM t f met st)
  | 0, met, st, h => h
  | f + 1, met, st, h => by
    unfold endM
    split
    · exact h
    · exact endM_ok ht f _ (doneM_ok ht h (mode_ok ht (h.mem _ (topOf_mem h.ne))).fi)
theorem walkM_ok (ht : t.ok2) : ∀ (l : List Nat) {st : List Str}, StOk t st → StOk t (walkM t st l).2 ∧ (walkM t st l).1.length = l.length
  | [], st, h => ⟨h, rfl⟩
  | x :: l, st, h => by
    have := walkM_ok ht l (doneM_ok ht h (rowM_ok (mode_ok ht (h.mem _ (topOf_mem h.ne))) x (headS l)))
    exact ⟨this.1, by simp [walkM, this.2]⟩
theorem lineM_ok (ht : t.ok2) (l : List Nat) (h : StOk t st) : StOk t (lineM t st l).2 := endM_ok ht _ _ (walkM_ok ht l h).1
end
end K02

namespace K02
open PySem PySem.Spec PyProof.Rows L2 FL
local macro_rules | `(tactic| decreasing_trivial_pre_omega) => `(tactic| first | omega | (simp only [List.length_map, List.length_append, List.length_cons, List.length_nil, List.length_replicate, List.length_take, List.length_drop, mkS_length]; omega))
theorem dct_get (t : Told) : valD [(D.str "signs", D.str t.S), (D.str "modes", D.dct (dMs t.ms)), (D.str "first", D.str t.first), (D.str "deep", D.int t.deep)] (.str "modes") = some (.dct (dMs t.ms)) := by simp [valD]
theorem dct_get2 (t : Told) : valD [(D.str "signs", D.str t.S), (D.str "modes", D.dct (dMs t.ms)), (D.str "first", D.str t.first), (D.str "deep", D.int t.deep)] (.str "deep") = some (.int t.deep) := by simp [valD]
theorem dct_get3 (t : Told) : valD [(D.str "signs", D.str t.S), (D.str "modes", D.dct (dMs t.ms)), (D.str "first", D.str t.first), (D.str "deep", D.int t.deep)] (.str "signs") = some (.str t.S) := by simp [valD]
theorem dct_get4 (t : Told) : valD [(D.str "signs", D.str t.S), (D.str "modes", D.dct (dMs t.ms)), (D.str "first", D.str t.first), (D.str "deep", D.int t.deep)] (.str "first") = some (.str t.first) := by simp [valD]
theorem hit_next (l : List Str) (late : Str) : (l.map D.str).any (fun y => eqD y (.str late)) = l.any fun y => decide (y = late) := by
  simp [List.any_map, Function.comp_def]
theorem hit_row (r : Row) (x : Nat) : (r.signs.map signD).any (fun y => eqD y (.str (mkS [x]))) = r.signs.any fun c => decide (c = x) := by
  simp [List.any_map, Function.comp_def]
theorem row_turn (c : Cs) {r : Row} {x : Nat} {late : Str} {a0 a1 : Sl} {p2 p3 : Option Nat} : T__law_row_1 c [a0, a1, .va p2 .f (.str (mkS [x])), .va p3 .f (.str late), .va none .f (.tup (r.signs.map signD)), .va none .f (dNexts r.nexts), .va none .f (.str r.colour), .va none .f (dDeed r.deed)] =
    if rowHit x late r = true then .rt .f (.tup [.str r.colour, dDeed r.deed]) [a0, a1, .va p2 .f (.str (mkS [x])), .va p3 .f (.str late), .va none .f (.tup (r.signs.map signD)), .va none .f (dNexts r.nexts), .va none .f (.str r.colour), .va none .f (dDeed r.deed)]
    else .nx [a0, a1, .va p2 .f (.str (mkS [x])), .va p3 .f (.str late), .va none .f (.tup (r.signs.map signD)), .va none .f (dNexts r.nexts), .va none .f (.str r.colour), .va none .f (dDeed r.deed)] := by
  have e := hit_row r x
  have hq : ∀ n, (r.signs.map signD).all (eqable n) = true := fun n => by simp
  unfold rowHit T__law_row_1
  cases h1 : (r.signs.any fun c => decide (c = x)) <;> cases hn : r.nexts with
  | none => simp -implicitDefEqProofs (disch := decreasing_trivial_pre_omega) [List.findIdx?_cons, List.getElem?_cons_zero, List.getElem?_cons_succ, List.getElem?_nil, dec_le, dec_le', dec_lt, dec_lt', dec_eq, dec_ne, -getElem?_pos, -getElem?_neg, e, h1, dNexts, hq, -List.any_map, -List.all_map]
  | some l =>
    have e2 := hit_next l late
    have hq2 : ∀ n, (l.map D.str).all (eqable n) = true := fun n => by simp
    cases h2 : (l.any fun y => decide (y = late)) <;> simp -implicitDefEqProofs (disch := decreasing_trivial_pre_omega) [List.findIdx?_cons, List.getElem?_cons_zero, List.getElem?_cons_succ, List.getElem?_nil, dec_le, dec_le', dec_lt, dec_lt', dec_eq, dec_ne, -getElem?_pos, -getElem?_neg, e, e2, h1, h2, dNexts, hq, hq2, -List.any_map, -List.all_map]
theorem law_row_ (c : Cs) {t : Told} {n : Str} (hn : n ∈ t.ms.map (·.1)) (x : Nat) (late : Str) :
    f__law_row c [(.f, dTold t), (.f, .str n), (.f, .str (mkS [x])), (.f, .str late)] = .ret .f (.tup [.str (rowM (modeOf t.ms n) x late).1, dDeed (rowM (modeOf t.ms n) x late).2]) [(.f, dTold t), (.f, .str n), (.f, .str (mkS [x])), (.f, .str late)] := by
  have hv := (mode_get (t := t) hn).1
  have hd := dct_get t
  have h := loop_find (tg := tupG 4 (consG (putG 4) (consG (putG 5) (consG (putG 6) (consG (putG 7) nilG))))) (body := T__law_row_1 c) (enc := dRow) (hit := rowHit x late) (res := fun r => .tup [.str r.colour, dDeed r.deed])
    (R := fun ρ => ∃ x4 x5 x6 x7, ρ = [.va (some 0) .f (dTold t), .va (some 1) .f (.str n), .va (some 2) .f (.str (mkS [x])), .va (some 3) .f (.str late), x4, x5, x6, x7])
    (R' := fun ρ => ∃ x4 x5 x6 x7, ρ = [.va (some 0) .f (dTold t), .va (some 1) .f (.str n), .va (some 2) .f (.str (mkS [x])), .va (some 3) .f (.str late), x4, x5, x6, x7]) (modeOf t.ms n).rows
    [.va (some 0) .f (dTold t), .va (some 1) .f (.str n), .va (some 2) .f (.str (mkS [x])), .va (some 3) .f (.str late), .no, .no, .no, .no] ⟨_, _, _, _, rfl⟩ (by
      rintro r _ ρ ⟨x4, x5, x6, x7, rfl⟩
      have e := row_turn c (r := r) (x := x) (late := late) (a0 := .va (some 0) .f (dTold t)) (a1 := .va (some 1) .f (.str n)) (p2 := some 2) (p3 := some 3)
      exact ⟨[.va (some 0) .f (dTold t), .va (some 1) .f (.str n), .va (some 2) .f (.str (mkS [x])), .va (some 3) .f (.str late), .va none .f (.tup (r.signs.map signD)), .va none .f (dNexts r.nexts), .va none .f (.str r.colour), .va none .f (dDeed r.deed)], by simp [dRow], fun hh => ⟨_, by rw [e, if_pos hh], _, _, _, _, rfl⟩, fun hh => ⟨_, by rw [e, hh]; rfl, _, _, _, _, rfl⟩⟩)
  unfold f__law_row T__law_row T__law_row_2 rowM
  rcases h with ⟨r, ρ2, h1, h2, x4, x5, x6, x7, rfl⟩ | ⟨ρ2, h1, h2, x4, x5, x6, x7, rfl⟩
  · simp -implicitDefEqProofs (disch := decreasing_trivial_pre_omega) [List.findIdx?_cons, List.getElem?_cons_zero, List.getElem?_cons_succ, List.getElem?_nil, dec_le, dec_le', dec_lt, dec_lt', dec_eq, dec_ne, -getElem?_pos, -getElem?_neg, dTold, hd, hv, dMode, h1] at h2 ⊢
    simp -implicitDefEqProofs (disch := decreasing_trivial_pre_omega) [List.findIdx?_cons, List.getElem?_cons_zero, List.getElem?_cons_succ, List.getElem?_nil, dec_le, dec_le', dec_lt, dec_lt', dec_eq, dec_ne, -getElem?_pos, -getElem?_neg, h2]
  · simp -implicitDefEqProofs (disch := decreasing_trivial_pre_omega) [List.findIdx?_cons, List.getElem?_cons_zero, List.getElem?_cons_succ, List.getElem?_nil, dec_le, dec_le', dec_lt, dec_lt', dec_eq, dec_ne, -getElem?_pos, -getElem?_neg, dTold, hd, hv, dMode, h1, dDeed] at h2 ⊢
    simp -implicitDefEqProofs (disch := decreasing_trivial_pre_omega) [List.findIdx?_cons, List.getElem?_cons_zero, List.getElem?_cons_succ, List.getElem?_nil, dec_le, dec_le', dec_lt, dec_lt', dec_eq, dec_ne, -getElem?_pos, -getElem?_neg, h2, hd, hv, dMode, dDeed]
theorem law_done_ (c : Cs) {t : Told} {st : List Str} (h : StOk t st) (d : Deed) : f__law_done c [(.f, dTold t), (.f, dSt st), (.f, dDeed d)] = .ret .f (dSt (doneM t.deep st d)) [(.f, dTold t), (.f, dSt st), (.f, dDeed d)] := by
  have hd := dct_get2 t
  have hc := cutD_init (xs := st.map D.str)
  have hl := h.ln
  unfold f__law_done T__law_done T__law_done_2 T__law_done_1
  cases d with
  | stay => simp -implicitDefEqProofs (disch := decreasing_trivial_pre_omega) [List.findIdx?_cons, List.getElem?_cons_zero, List.getElem?_cons_succ, List.getElem?_nil, dec_le, dec_le', dec_lt, dec_lt', dec_eq, dec_ne, -getElem?_pos, -getElem?_neg, dDeed, dSt, doneM]
  | pop =>
    by_cases h1 : (1 : Int) < (st.length : Nat)
    · have h1' : 1 < st.length := by omega
      simp -implicitDefEqProofs (disch := decreasing_trivial_pre_omega) [List.findIdx?_cons, List.getElem?_cons_zero, List.getElem?_cons_succ, List.getElem?_nil, dec_le, dec_le', dec_lt, dec_lt', dec_eq, dec_ne, -getElem?_pos, -getElem?_neg, dDeed, dSt, doneM, hc, h1', List.map_dropLast]
    · have h1' : ¬ 1 < st.length := by omega
      simp -implicitDefEqProofs (disch := decreasing_trivial_pre_omega) [List.findIdx?_cons, List.getElem?_cons_zero, List.getElem?_cons_succ, List.getElem?_nil, dec_le, dec_le', dec_lt, dec_lt', dec_eq, dec_ne, -getElem?_pos, -getElem?_neg, dDeed, dSt, doneM, hc, h1', Nat.not_lt.mp h1']
  | push n =>
    by_cases h1 : (st.length : Int) < t.deep
    · simp -implicitDefEqProofs (disch := decreasing_trivial_pre_omega) [List.findIdx?_cons, List.getElem?_cons_zero, List.getElem?_cons_succ, List.getElem?_nil, dec_le, dec_le', dec_lt, dec_lt', dec_eq, dec_ne, -getElem?_pos, -getElem?_neg, dDeed, dSt, doneM, dTold, hd, h1]
    · simp -implicitDefEqProofs (disch := decreasing_trivial_pre_omega) [List.findIdx?_cons, List.getElem?_cons_zero, List.getElem?_cons_succ, List.getElem?_nil, dec_le, dec_le', dec_lt, dec_lt', dec_eq, dec_ne, -getElem?_pos, -getElem?_neg, dDeed, dSt, doneM, dTold, hd, h1, Int.not_lt.mp h1]
  | swap n => simp -implicitDefEqProofs (disch := decreasing_trivial_pre_omega) [List.findIdx?_cons, List.getElem?_cons_zero, List.getElem?_cons_succ, List.getElem?_nil, dec_le, dec_le', dec_lt, dec_lt', dec_eq, dec_ne, -getElem?_pos, -getElem?_neg, dDeed, dSt, doneM, hc, List.map_dropLast]
end K02

namespace K02
open PySem PySem.Spec PyProof.Rows L2 FL
local macro_rules | `(tactic| decreasing_trivial_pre_omega) => `(tactic| first | omega | (simp only [List.length_map, List.length_append, List.length_cons, List.length_nil, List.length_replicate, List.length_take, List.length_drop, mkS_length]; omega))
theorem atI_pre {α : Type} (pre : List α) (x y : α) (r : List α) : atI (pre ++ x :: y :: r) ((pre.length : Int) + 1) = some y := by
  have : ((pre.length : Int) + 1) = ((pre.length + 1 : Nat) : Int) := by omega
  rw [this, atI_of_nat]
  simp
theorem law_walk (c : Cs) {t : Told} (ht : t.ok2) {p0 p2 : Option Nat} {x8 x9 : Sl} {L : List Nat} (hL : L.length ≤ 1000) : ∀ (suf pre : List Nat) (st : List Str) (acc : List Str) (p1 : Option Nat) (x4 x5 x6 x7 : Sl), L = pre ++ suf → acc.length = pre.length → StOk t st →
    ∃ p1' x4' x5' x6' x7', (p1' = none ∨ p1' = p1 ∧ (walkM t st suf).2 = st) ∧ loopS (tupG 2 (consG (putG 4) (consG (putG 5) nilG))) (T__law_line_2 c) ((suf.zipIdx pre.length).map fun p => .tup [.int (p.2 : Nat), signD p.1]) [.va p0 .f (dTold t), .va p1 .f (dSt st), .va p2 .f (.str (mkS L)), .va none (.o .f) (.lst (acc.map .str)), x4, x5, x6, x7, x8, x9] =
      .nx [.va p0 .f (dTold t), .va p1' .f (dSt (walkM t st suf).2), .va p2 .f (.str (mkS L)), .va none (.o .f) (.lst ((acc ++ (walkM t st suf).1).map .str)), x4', x5', x6', x7', x8, x9]
  | [], pre, st, acc, p1, x4, x5, x6, x7, e, ha, hs => ⟨p1, x4, x5, x6, x7, .inr ⟨rfl, rfl⟩, by simp [walkM]⟩
  | x :: suf, pre, st, acc, p1, x4, x5, x6, x7, e, ha, hs => by
    have hn := hs.mem _ (topOf_mem hs.ne)
    have hrow := law_row_ c hn x (headS suf)
    have hdone := law_done_ c hs (rowM (modeOf t.ms (topOf st)) x (headS suf)).2
    have hs' := doneM_ok ht hs (rowM_ok (mode_ok ht hn) x (headS suf))
    have htop := topOf_get hs.ne
    subst e
    simp only [List.length_append, List.length_cons] at hL
    obtain ⟨p1', y4, y5, y6, y7, hp, e2⟩ := law_walk c ht (p0 := p0) (p2 := p2) (x8 := x8) (x9 := x9) (L := pre ++ x :: suf) (by simp; omega) suf (pre ++ [x]) (doneM t.deep st (rowM (modeOf t.ms (topOf st)) x (headS suf)).2) (acc ++ [(rowM (modeOf t.ms (topOf st)) x (headS suf)).1]) none
      (.va none .f (.int (pre.length : Nat))) (.va none .f (signD x)) (.va none .f (.str (rowM (modeOf t.ms (topOf st)) x (headS suf)).1)) (.va none .f (dDeed (rowM (modeOf t.ms (topOf st)) x (headS suf)).2)) (by simp) (by simp [ha]) hs'
    refine ⟨p1', y4, y5, y6, y7, .inl (by rcases hp with h | h; exact h; exact h.1), ?_⟩
    rw [List.zipIdx_cons, List.map_cons, loopS_cons (ρ1 := [.va p0 .f (dTold t), .va p1 .f (dSt st), .va p2 .f (.str (mkS (pre ++ x :: suf))), .va none (.o .f) (.lst (acc.map .str)), .va none .f (.int (pre.length : Nat)), .va none .f (signD x), x6, x7, x8, x9]) (by simp)]
    have e1 : T__law_line_2 c [.va p0 .f (dTold t), .va p1 .f (dSt st), .va p2 .f (.str (mkS (pre ++ x :: suf))), .va none (.o .f) (.lst (acc.map .str)), .va none .f (.int (pre.length : Nat)), .va none .f (signD x), x6, x7, x8, x9] =
        .nx [.va p0 .f (dTold t), .va none .f (dSt (doneM t.deep st (rowM (modeOf t.ms (topOf st)) x (headS suf)).2)), .va p2 .f (.str (mkS (pre ++ x :: suf))), .va none (.o .f) (.lst ((acc ++ [(rowM (modeOf t.ms (topOf st)) x (headS suf)).1]).map .str)), .va none .f (.int (pre.length : Nat)), .va none .f (signD x), .va none .f (.str (rowM (modeOf t.ms (topOf st)) x (headS suf)).1), .va none .f (dDeed (rowM (modeOf t.ms (topOf st)) x (headS suf)).2), x8, x9] := by
      unfold T__law_line_2 T__law_line_1
      cases suf with
      | nil =>
        simp only [headS] at hrow hdone ⊢
        simp -implicitDefEqProofs (disch := decreasing_trivial_pre_omega) [List.findIdx?_cons, List.getElem?_cons_zero, List.getElem?_cons_succ, List.getElem?_nil, dec_le, dec_le', dec_lt, dec_lt', dec_eq, dec_ne, -getElem?_pos, -getElem?_neg, dSt, htop, hrow] at hdone ⊢
        simp -implicitDefEqProofs (disch := decreasing_trivial_pre_omega) [List.findIdx?_cons, List.getElem?_cons_zero, List.getElem?_cons_succ, List.getElem?_nil, dec_le, dec_le', dec_lt, dec_lt', dec_eq, dec_ne, -getElem?_pos, -getElem?_neg, hdone]
      | cons y r =>
        have hat := atI_pre pre x y r
        simp only [headS, List.length_cons] at hrow hdone hL ⊢
        simp -implicitDefEqProofs (disch := decreasing_trivial_pre_omega) [List.findIdx?_cons, List.getElem?_cons_zero, List.getElem?_cons_succ, List.getElem?_nil, dec_le, dec_le', dec_lt, dec_lt', dec_eq, dec_ne, -getElem?_pos, -getElem?_neg, dSt, htop, hrow, hat] at hdone ⊢
        simp -implicitDefEqProofs (disch := decreasing_trivial_pre_omega) [List.findIdx?_cons, List.getElem?_cons_zero, List.getElem?_cons_succ, List.getElem?_nil, dec_le, dec_le', dec_lt, dec_lt', dec_eq, dec_ne, -getElem?_pos, -getElem?_neg, hdone]
    rw [e1]
    simpa [walkM] using e2
end K02

namespace K02
open PySem PySem.Spec PyProof.Rows L2 FL
local macro_rules | `(tactic| decreasing_trivial_pre_omega) => `(tactic| first | omega | (simp only [List.length_map, List.length_append, List.length_cons, List.length_nil, List.length_replicate, List.length_take, List.length_drop, mkS_length]; omega))
theorem met_any (met : List Str) (n : Str) : (met.map D.str).any (fun y => eqD y (.str n)) = decide (n ∈ met) := by
  rw [List.any_map, Bool.eq_iff_iff]
  simp
theorem met_fit (met : List Str) (k : Nat) : (met.map D.str).all (eqable k) = true := by simp
theorem law_end (c : Cs) {t : Told} (ht : t.ok2) {p0 : Option Nat} {x2 x3 x4 x5 x6 x7 : Sl} : ∀ (ds : List D) (st met : List Str) (p1 : Option Nat) (x9 : Sl), met.length + ds.length ≤ 1000 → StOk t st →
    ∃ p1' x8' x9', (p1' = none ∨ p1' = p1 ∧ endM t ds.length met st = st) ∧ loopS (putG 9) (T__law_line_4 c) ds [.va p0 .f (dTold t), .va p1 .f (dSt st), x2, x3, x4, x5, x6, x7, .va none (.o .f) (.lst (met.map .str)), x9] =
      .nx [.va p0 .f (dTold t), .va p1' .f (dSt (endM t ds.length met st)), x2, x3, x4, x5, x6, x7, x8', x9']
  | [], st, met, p1, x9, hl, hs => ⟨p1, _, x9, .inr ⟨rfl, rfl⟩, rfl⟩
  | d :: ds, st, met, p1, x9, hl, hs => by
    have hn := hs.mem _ (topOf_mem hs.ne)
    have hdone := law_done_ c hs (modeOf t.ms (topOf st)).fin
    have htop := topOf_get hs.ne
    have hv := (mode_get (t := t) hn).1
    have hd := dct_get t
    have hs' := doneM_ok ht hs (mode_ok ht hn).fi
    have ha := met_any met (topOf st)
    have hf := met_fit met
    simp only [List.length_cons] at hl ⊢
    rw [loopS_cons (ρ1 := [.va p0 .f (dTold t), .va p1 .f (dSt st), x2, x3, x4, x5, x6, x7, .va none (.o .f) (.lst (met.map .str)), .va none .f d]) (by simp)]
    by_cases hm : topOf st ∈ met
    · refine ⟨p1, .va none (.o .f) (.lst (met.map .str)), .va none .f d, .inr ⟨rfl, by simp [endM, hm]⟩, ?_⟩
      unfold T__law_line_4
      simp -implicitDefEqProofs (disch := decreasing_trivial_pre_omega) [List.findIdx?_cons, List.getElem?_cons_zero, List.getElem?_cons_succ, List.getElem?_nil, dec_le, dec_le', dec_lt, dec_lt', dec_eq, dec_ne, -getElem?_pos, -getElem?_neg, dSt, htop, ha, hf, hm, endM, -List.any_map, -List.all_map]
    · obtain ⟨p1', y8, y9, hp, e2⟩ := law_end c ht (p0 := p0) (x2 := x2) (x3 := x3) (x4 := x4) (x5 := x5) (x6 := x6) (x7 := x7) ds (doneM t.deep st (modeOf t.ms (topOf st)).fin) (met ++ [topOf st]) none (.va none .f d) (by simp; omega) hs'
      refine ⟨p1', y8, y9, .inl (by rcases hp with h | h; exact h; exact h.1), ?_⟩
      have e1 : T__law_line_4 c [.va p0 .f (dTold t), .va p1 .f (dSt st), x2, x3, x4, x5, x6, x7, .va none (.o .f) (.lst (met.map .str)), .va none .f d] =
          .nx [.va p0 .f (dTold t), .va none .f (dSt (doneM t.deep st (modeOf t.ms (topOf st)).fin)), x2, x3, x4, x5, x6, x7, .va none (.o .f) (.lst ((met ++ [topOf st]).map .str)), .va none .f d] := by
        unfold T__law_line_4 T__law_line_3
        simp -implicitDefEqProofs (disch := decreasing_trivial_pre_omega) [List.findIdx?_cons, List.getElem?_cons_zero, List.getElem?_cons_succ, List.getElem?_nil, dec_le, dec_le', dec_lt, dec_lt', dec_eq, dec_ne, -getElem?_pos, -getElem?_neg, dSt, dTold, htop, ha, hf, hm, hd, hv, dMode, -List.any_map, -List.all_map] at hdone ⊢
        simp -implicitDefEqProofs (disch := decreasing_trivial_pre_omega) [List.findIdx?_cons, List.getElem?_cons_zero, List.getElem?_cons_succ, List.getElem?_nil, dec_le, dec_le', dec_lt, dec_lt', dec_eq, dec_ne, -getElem?_pos, -getElem?_neg, hdone]
      rw [e1]
      simpa [endM, hm] using e2
theorem law_line_ (c : Cs) {t : Told} (ht : t.ok2) {st : List Str} (hs : StOk t st) {L : List Nat} (hL : L.length ≤ 1000) :
    f__law_line c [(.f, dTold t), (.f, dSt st), (.f, .str (mkS L))] = .ret .f (.tup [.tup ((lineM t st L).1.map .str), dSt (lineM t st L).2]) [(.f, dTold t), (.f, dSt st), (.f, .str (mkS L))] := by
  obtain ⟨p1, x4, x5, x6, x7, hp1, e1⟩ := law_walk c ht (p0 := some 0) (p2 := some 2) (x8 := .no) (x9 := .no) hL L [] st [] (some 1) .no .no .no .no rfl rfl hs
  obtain ⟨hs', hlen⟩ := walkM_ok ht L hs
  have hm3 := (names_len ht.o.nm).2
  obtain ⟨p1', x8, x9, hp2, e2⟩ := law_end c ht (p0 := some 0) (x2 := .va (some 2) .f (.str (mkS L))) (x3 := .va none (.o .f) (.lst ((walkM t st L).1.map .str))) (x4 := x4) (x5 := x5) (x6 := x6) (x7 := x7) (rangeD 0 ((t.ms.length : Int) + 1)) (walkM t st L).2 [] p1 .no (by simp [rangeD]; omega) hs'
  have hr : (rangeD 0 ((t.ms.length : Int) + 1)).length = t.ms.length + 1 := by simp [rangeD]
  rw [hr] at e2
  have hd := dct_get t
  have hdm : (dMs t.ms).length = t.ms.length := by simp [dMs]
  unfold f__law_line T__law_line T__law_line_8 T__law_line_7 T__law_line_6 T__law_line_5
  rw [List.length_nil, ← enumD_eq] at e1
  rw [hr] at hp2
  have hp : p1' = none ∨ (p1' = some 1 ∧ endM t (t.ms.length + 1) [] (walkM t st L).2 = st) := by
    rcases hp2 with h | ⟨h, h'⟩
    · exact .inl h
    · rcases hp1 with h1 | ⟨h1, h1'⟩
      · exact .inl (by rw [h, h1])
      · exact .inr ⟨by rw [h, h1], by rw [h', h1']⟩
  simp -implicitDefEqProofs (disch := decreasing_trivial_pre_omega) [List.findIdx?_cons, List.getElem?_cons_zero, List.getElem?_cons_succ, List.getElem?_nil, dec_le, dec_le', dec_lt, dec_lt', dec_eq, dec_ne, -getElem?_pos, -getElem?_neg, dTold, hd, hdm] at e1 e2 ⊢
  rcases hp with rfl | ⟨rfl, hp⟩
  · simp -implicitDefEqProofs (disch := decreasing_trivial_pre_omega) [List.findIdx?_cons, List.getElem?_cons_zero, List.getElem?_cons_succ, List.getElem?_nil, dec_le, dec_le', dec_lt, dec_lt', dec_eq, dec_ne, -getElem?_pos, -getElem?_neg, e1, e2, hd, hdm, lineM, endOf]
  · simp -implicitDefEqProofs (disch := decreasing_trivial_pre_omega) [List.findIdx?_cons, List.getElem?_cons_zero, List.getElem?_cons_succ, List.getElem?_nil, dec_le, dec_le', dec_lt, dec_lt', dec_eq, dec_ne, -getElem?_pos, -getElem?_neg, e1, e2, hd, hdm, lineM, endOf, hp]
def textM (t : Told) : List Str → List (List Nat) → List (List Str × List Str) × List Str
  | st, [] => ([], st)
  | st, l :: ls => ((st, (lineM t st l).1) :: (textM t (lineM t st l).2 ls).1, (textM t (lineM t st l).2 ls).2)
def dDue (p : List Str × List Str) : D := .tup [dSt p.1, .tup (p.2.map .str)]
theorem textM_ok {t : Told} (ht : t.ok2) : ∀ (ls : List (List Nat)) {st : List Str}, StOk t st → StOk t (textM t st ls).2 ∧ (textM t st ls).1.length = ls.length ∧ ∀ p ∈ (textM t st ls).1, StOk t p.1
  | [], st, h => ⟨h, rfl, by simp [textM]⟩
  | l :: ls, st, h => by
    have := textM_ok ht ls (lineM_ok ht l h)
    refine ⟨this.1, by simp [textM, this.2.1], fun p hp => ?_⟩
    simp only [textM, List.mem_cons] at hp
    rcases hp with rfl | hp
    · exact h
    · exact this.2.2 p hp
theorem law_text_loop (c : Cs) {t : Told} (ht : t.ok2) {p0 : Option Nat} {x2 : Sl} : ∀ (ls : List (List Nat)) (st : List Str) (acc : List (List Str × List Str)) (p1 : Option Nat) (x4 x5 x6 : Sl), (∀ l ∈ ls, l.length ≤ 1000) → acc.length + ls.length ≤ 1000 → StOk t st →
    ∃ p1' x4' x5' x6', (p1' = none ∨ p1' = p1 ∧ (textM t st ls).2 = st) ∧ loopS (putG 4) (T__law_text_2 c) (ls.map fun l => .str (mkS l)) [.va p0 .f (dTold t), .va p1 .f (dSt st), x2, .va none (.o .f) (.lst (acc.map dDue)), x4, x5, x6] =
      .nx [.va p0 .f (dTold t), .va p1' .f (dSt (textM t st ls).2), x2, .va none (.o .f) (.lst ((acc ++ (textM t st ls).1).map dDue)), x4', x5', x6']
  | [], st, acc, p1, x4, x5, x6, h, hl, hs => ⟨p1, x4, x5, x6, .inr ⟨rfl, rfl⟩, by simp [textM]⟩
  | l :: ls, st, acc, p1, x4, x5, x6, h, hl, hs => by
    have hline := law_line_ c ht hs (h l List.mem_cons_self)
    simp only [List.length_cons] at hl
    obtain ⟨p1', y4, y5, y6, hp, e2⟩ := law_text_loop c ht (p0 := p0) (x2 := x2) ls (lineM t st l).2 (acc ++ [(st, (lineM t st l).1)]) none (.va none .f (.str (mkS l))) (.va none .f (.tup ((lineM t st l).1.map .str))) (.va none .f (dSt (lineM t st l).2)) (fun l m => h l (List.mem_cons_of_mem _ m)) (by simp; omega) (lineM_ok ht l hs)
    refine ⟨p1', y4, y5, y6, .inl (by rcases hp with h | h; exact h; exact h.1), ?_⟩
    rw [List.map_cons, loopS_cons (ρ1 := [.va p0 .f (dTold t), .va p1 .f (dSt st), x2, .va none (.o .f) (.lst (acc.map dDue)), .va none .f (.str (mkS l)), x5, x6]) (by simp)]
    have e1 : T__law_text_2 c [.va p0 .f (dTold t), .va p1 .f (dSt st), x2, .va none (.o .f) (.lst (acc.map dDue)), .va none .f (.str (mkS l)), x5, x6] =
        .nx [.va p0 .f (dTold t), .va none .f (dSt (lineM t st l).2), x2, .va none (.o .f) (.lst ((acc ++ [(st, (lineM t st l).1)]).map dDue)), .va none .f (.str (mkS l)), .va none .f (.tup ((lineM t st l).1.map .str)), .va none .f (dSt (lineM t st l).2)] := by
      unfold T__law_text_2 T__law_text_1
      simp -implicitDefEqProofs (disch := decreasing_trivial_pre_omega) [List.findIdx?_cons, List.getElem?_cons_zero, List.getElem?_cons_succ, List.getElem?_nil, dec_le, dec_le', dec_lt, dec_lt', dec_eq, dec_ne, -getElem?_pos, -getElem?_neg, dSt, dDue, hline] at hline ⊢
    rw [e1]
    simpa [textM] using e2
theorem law_text_ (c : Cs) {t : Told} (ht : t.ok2) {st : List Str} (hs : StOk t st) {ls : List (List Nat)} (h : ∀ l ∈ ls, l.length ≤ 1000) (hl : ls.length ≤ 1000) :
    f__law_text c [(.f, dTold t), (.f, dSt st), (.f, .lst (ls.map fun l => .str (mkS l)))] = .ret .f (.tup [.lst ((textM t st ls).1.map dDue), dSt (textM t st ls).2]) [(.f, dTold t), (.f, dSt st), (.f, .lst (ls.map fun l => .str (mkS l)))] := by
  obtain ⟨p1, x4, x5, x6, hp, e⟩ := law_text_loop c ht (p0 := some 0) (x2 := .va (some 2) .f (.lst (ls.map fun l => .str (mkS l)))) ls st [] (some 1) .no .no .no h (by simpa using hl) hs
  unfold f__law_text T__law_text T__law_text_4 T__law_text_3
  simp -implicitDefEqProofs (disch := decreasing_trivial_pre_omega) [List.findIdx?_cons, List.getElem?_cons_zero, List.getElem?_cons_succ, List.getElem?_nil, dec_le, dec_le', dec_lt, dec_lt', dec_eq, dec_ne, -getElem?_pos, -getElem?_neg] at e ⊢
  rcases hp with rfl | ⟨rfl, hp⟩
  · simp -implicitDefEqProofs (disch := decreasing_trivial_pre_omega) [List.findIdx?_cons, List.getElem?_cons_zero, List.getElem?_cons_succ, List.getElem?_nil, dec_le, dec_le', dec_lt, dec_lt', dec_eq, dec_ne, -getElem?_pos, -getElem?_neg, e]
  · simp -implicitDefEqProofs (disch := decreasing_trivial_pre_omega) [List.findIdx?_cons, List.getElem?_cons_zero, List.getElem?_cons_succ, List.getElem?_nil, dec_le, dec_le', dec_lt, dec_lt', dec_eq, dec_ne, -getElem?_pos, -getElem?_neg, e, hp]
end K02

namespace K02
open PySem PySem.Spec PyProof.Rows L2 FL
local macro_rules | `(tactic| decreasing_trivial_pre_omega) => `(tactic| first | omega | (simp only [List.length_map, List.length_append, List.length_cons, List.length_nil, List.length_replicate, List.length_take, List.length_drop, mkS_length]; omega))
theorem fl_signs (c : Cs) (t : Told) : fldO (okF_signs c) "signs" (.f, dBook c t) = some (.f, .str (srtS' t.S)) := by simp [fldO_ap, okF_signs, dBook, bookFs, List.lookup]
theorem fl_modes (c : Cs) (t : Told) : fldO (okF_modes c) "modes" (.f, dBook c t) = some (.f, .dct (dMs t.ms)) := by
  have h : (("modes" : Str) == "signs") = false := by decide
  simp [fldO_ap, okF_modes, dBook, bookFs, List.lookup, h]
theorem fl_first (c : Cs) (t : Told) : fldO (okF_first c) "first" (.f, dBook c t) = some (.f, .str t.first) := by
  have h : (("first" : Str) == "signs") = false := by decide
  have h1 : (("first" : Str) == "modes") = false := by decide
  simp [fldO_ap, okF_first, dBook, bookFs, List.lookup, h, h1]
theorem fl_deep (c : Cs) (t : Told) : fldO (okF_deep c) "deep" (.f, dBook c t) = some (.f, .int t.deep) := by
  have h : (("deep" : Str) == "signs") = false := by decide
  have h1 : (("deep" : Str) == "modes") = false := by decide
  have h2 : (("deep" : Str) == "first") = false := by decide
  simp [fldO_ap, okF_deep, dBook, bookFs, List.lookup, h, h1, h2]
theorem noM_row (c : Cs) (t : Told) : recvOk c.Book "row" (.ok p .t .f (dBook c t) ρ) = true := by
  have h : (("row" : Str) == "signs") = false := by decide
  have h1 : (("row" : Str) == "modes") = false := by decide
  have h2 : (("row" : Str) == "first") = false := by decide
  have h3 : (("row" : Str) == "deep") = false := by decide
  simp [recvOk_ap, dBook, bookFs, List.lookup, h, h1, h2, h3]
theorem noM_done (c : Cs) (t : Told) : recvOk c.Book "done" (.ok p .t .f (dBook c t) ρ) = true := by
  have h : (("done" : Str) == "signs") = false := by decide
  have h1 : (("done" : Str) == "modes") = false := by decide
  have h2 : (("done" : Str) == "first") = false := by decide
  have h3 : (("done" : Str) == "deep") = false := by decide
  simp [recvOk_ap, dBook, bookFs, List.lookup, h, h1, h2, h3]
theorem noM_step (c : Cs) (t : Told) : recvOk c.Book "step" (.ok p .t .f (dBook c t) ρ) = true := by
  have h : (("step" : Str) == "signs") = false := by decide
  have h1 : (("step" : Str) == "modes") = false := by decide
  have h2 : (("step" : Str) == "first") = false := by decide
  have h3 : (("step" : Str) == "deep") = false := by decide
  simp [recvOk_ap, dBook, bookFs, List.lookup, h, h1, h2, h3]
theorem noM_ended (c : Cs) (t : Told) : recvOk c.Book "ended" (.ok p .t .f (dBook c t) ρ) = true := by
  have h : (("ended" : Str) == "signs") = false := by decide
  have h1 : (("ended" : Str) == "modes") = false := by decide
  have h2 : (("ended" : Str) == "first") = false := by decide
  have h3 : (("ended" : Str) == "deep") = false := by decide
  simp [recvOk_ap, dBook, bookFs, List.lookup, h, h1, h2, h3]
theorem srt_mem (S : Str) (x : Nat) : hasS (srtS' S) x = hasS S x := by
  have h : ∃ ls : List (List Nat), sortS (S.cps.toList.map fun c => mkS [c]) = ls.map mkS ∧ ∀ l, l ∈ ls ↔ ∃ c ∈ S.cps.toList, l = [c] := by
    refine ⟨(sortS (S.cps.toList.map fun c => mkS [c])).map (·.cps.toList), ?_, fun l => ?_⟩
    · rw [List.map_map]
      conv => lhs; rw [← List.map_id (sortS _)]
      refine List.map_congr_left fun s _ => ?_
      exact str_mkS s
    · rw [List.mem_map]
      constructor
      · rintro ⟨s, hs, rfl⟩
        rw [sortS_mem, List.mem_map] at hs
        obtain ⟨c, hc, rfl⟩ := hs
        exact ⟨c, hc, by simp⟩
      · rintro ⟨c, hc, rfl⟩
        exact ⟨mkS [c], by rw [sortS_mem, List.mem_map]; exact ⟨c, hc, rfl⟩, by simp⟩
  obtain ⟨ls, e, hm⟩ := h
  unfold srtS'
  have e0 : (Str.ofString "") = mkS [] := by decide
  rw [e, e0, join_mkS, hasS_mkS]
  unfold hasS
  have : ∀ y, y ∈ List.intercalate [] ls ↔ y ∈ S.cps.toList := by
    intro y
    rw [show List.intercalate ([] : List Nat) ls = ls.flatten from ?_, List.mem_flatten]
    · constructor
      · rintro ⟨l, hl, hy⟩
        obtain ⟨c, hc, rfl⟩ := (hm l).mp hl
        rwa [List.mem_singleton.mp hy]
      · intro hy
        exact ⟨[y], (hm _).mpr ⟨y, hy, rfl⟩, by simp⟩
    · clear hm e
      unfold List.intercalate
      induction ls with
      | nil => rfl
      | cons a r ih =>
        cases r with
        | nil => simp
        | cons b r => simpa using ih
  simp only [this]
theorem check_book_ (c : Cs) (t : Told) : f_check_book c [(.f, dBook c t)] = .ret .f .non [(.f, dBook c t)] := by
  unfold f_check_book T_check_book
  simp -implicitDefEqProofs (disch := decreasing_trivial_pre_omega) [List.findIdx?_cons, List.getElem?_cons_zero, List.getElem?_cons_succ, List.getElem?_nil, dec_le, dec_le', dec_lt, dec_lt', dec_eq, dec_ne, -getElem?_pos, -getElem?_neg, isiC_ap, dBook, own_Book]
theorem is_mode_ (c : Cs) (t : Told) (n : Str) : f_is_mode c [(.f, dBook c t), (.f, .str n)] = .ret .f (.bl (decide (n ∈ t.ms.map (·.1)))) [(.f, dBook c t), (.f, .str n)] := by
  have h := fl_modes c t
  unfold f_is_mode T_is_mode
  simp -implicitDefEqProofs (disch := decreasing_trivial_pre_omega) [List.findIdx?_cons, List.getElem?_cons_zero, List.getElem?_cons_succ, List.getElem?_nil, dec_le, dec_le', dec_lt, dec_lt', dec_eq, dec_ne, -getElem?_pos, -getElem?_neg, isiO_ap, tyIs, h, valD_names, -List.mem_map]
theorem check_stack_ (c : Cs) {t : Told} (ht : t.ok2) {st : List Str} (hs : StOk t st) : f_check_stack c [(.f, dBook c t), (.f, dSt st)] = .ret .f .non [(.f, dBook c t), (.f, dSt st)] := by
  have h := fl_deep c t
  have h1 := List.length_pos_iff.mpr hs.ne
  have hl := hs.ln
  have hd := hs.dp
  have e : lcL [2] (putG 2) yesB (frzD (callE (f_is_mode c) (consA (name 0) (consA (name 2) nilA)))) (st.map .str) [] [.va (some 0) .f (dBook c t), .va (some 1) .f (dSt st), .no] = some (st.map fun _ => .bl true, [.va (some 0) .f (dBook c t), .va (some 1) .f (dSt st), .no]) := by
    refine lcL_map st (fun n hn => ?_) (by omega)
    have := is_mode_ c t n
    have hm := hs.mem n hn
    simp -implicitDefEqProofs (disch := decreasing_trivial_pre_omega) [List.findIdx?_cons, List.getElem?_cons_zero, List.getElem?_cons_succ, List.getElem?_nil, dec_le, dec_le', dec_lt, dec_lt', dec_eq, dec_ne, -getElem?_pos, -getElem?_neg, this, hm, -List.mem_map]
  have e2 : f_is_stack c [(.f, dBook c t), (.f, dSt st)] = .ret .f (.bl true) [(.f, dBook c t), (.f, dSt st)] := by
    unfold f_is_stack T_is_stack T_is_stack_1
    simp -implicitDefEqProofs (disch := decreasing_trivial_pre_omega) [List.findIdx?_cons, List.getElem?_cons_zero, List.getElem?_cons_succ, List.getElem?_nil, dec_le, dec_le', dec_lt, dec_lt', dec_eq, dec_ne, -getElem?_pos, -getElem?_neg, isiO_ap, tyIs, dSt, h] at e ⊢
    simp -implicitDefEqProofs (disch := decreasing_trivial_pre_omega) [List.findIdx?_cons, List.getElem?_cons_zero, List.getElem?_cons_succ, List.getElem?_nil, dec_le, dec_le', dec_lt, dec_lt', dec_eq, dec_ne, -getElem?_pos, -getElem?_neg, e]
  unfold f_check_stack T_check_stack
  simp -implicitDefEqProofs (disch := decreasing_trivial_pre_omega) [List.findIdx?_cons, List.getElem?_cons_zero, List.getElem?_cons_succ, List.getElem?_nil, dec_le, dec_le', dec_lt, dec_lt', dec_eq, dec_ne, -getElem?_pos, -getElem?_neg, e2]
/-! lines -/
def inSigns (t : Told) (l : List Nat) : Bool := decide (l.length ≤ 80) && l.all fun x => hasS t.S x
theorem is_line_ (c : Cs) (t : Told) {l : List Nat} (hl : l.length ≤ 1000) : f_is_line c [(.f, dBook c t), (.f, .str (mkS l))] = .ret .f (.bl (inSigns t l)) [(.f, dBook c t), (.f, .str (mkS l))] := by
  have h := fl_signs c t
  have e : lcL [2] (putG 2) yesB (use2 inDD (name 2) (use1 (fldO (okF_signs c) "signs") (name 0))) (l.map signD) [] [.va (some 0) .f (dBook c t), .va (some 1) .f (.str (mkS l)), .no] = some (l.map fun x => .bl (hasS t.S x), [.va (some 0) .f (dBook c t), .va (some 1) .f (.str (mkS l)), .no]) := by
    refine lcL_map l (fun x _ => ?_) (by omega)
    simp -implicitDefEqProofs (disch := decreasing_trivial_pre_omega) [List.findIdx?_cons, List.getElem?_cons_zero, List.getElem?_cons_succ, List.getElem?_nil, dec_le, dec_le', dec_lt, dec_lt', dec_eq, dec_ne, -getElem?_pos, -getElem?_neg, h, srt_mem]
  unfold f_is_line T_is_line T_is_line_1 inSigns
  by_cases h8 : (l.length : Int) ≤ 80
  · have h8' : l.length ≤ 80 := by omega
    simp -implicitDefEqProofs (disch := decreasing_trivial_pre_omega) [List.findIdx?_cons, List.getElem?_cons_zero, List.getElem?_cons_succ, List.getElem?_nil, dec_le, dec_le', dec_lt, dec_lt', dec_eq, dec_ne, -getElem?_pos, -getElem?_neg, isiO_ap, tyIs, e, h8']
  · have h8' : ¬ l.length ≤ 80 := by omega
    simp -implicitDefEqProofs (disch := decreasing_trivial_pre_omega) [List.findIdx?_cons, List.getElem?_cons_zero, List.getElem?_cons_succ, List.getElem?_nil, dec_le, dec_le', dec_lt, dec_lt', dec_eq, dec_ne, -getElem?_pos, -getElem?_neg, isiO_ap, tyIs, h8', Nat.not_le.mp h8']
theorem is_line_non (c : Cs) (t : Told) : f_is_line c [(.f, dBook c t), (.f, .non)] = .ret .f (.bl false) [(.f, dBook c t), (.f, .non)] := by
  unfold f_is_line T_is_line T_is_line_1
  simp -implicitDefEqProofs (disch := decreasing_trivial_pre_omega) [List.findIdx?_cons, List.getElem?_cons_zero, List.getElem?_cons_succ, List.getElem?_nil, dec_le, dec_le', dec_lt, dec_lt', dec_eq, dec_ne, -getElem?_pos, -getElem?_neg, isiO_ap, tyIs]
/-- a line, or None -/
def dLn : Option (List Nat) → D
  | none => .non
  | some l => .str (mkS l)
def okLn (t : Told) : Option (List Nat) → Bool
  | none => false
  | some l => inSigns t l
theorem is_line_any (c : Cs) (t : Told) {o : Option (List Nat)} (ho : ∀ l, o = some l → l.length ≤ 1000) : f_is_line c [(.f, dBook c t), (.f, dLn o)] = .ret .f (.bl (okLn t o)) [(.f, dBook c t), (.f, dLn o)] := by
  cases o with
  | none => exact is_line_non c t
  | some l => exact is_line_ c t (ho l rfl)
theorem check_lines_loop (c : Cs) (t : Told) {w : List D → D} {os : List (Option (List Nat))} : ∀ (suf : List (Option (List Nat))) (k : Nat) (x2 x3 : Sl), (∀ o ∈ suf, ∀ l, o = some l → l.length ≤ 1000) →
    match suf.findIdx? (fun o => !okLn t o) with
    | none => ∃ x2' x3', loopS (tupG 2 (consG (putG 2) (consG (putG 3) nilG))) (T_check_lines_1 c) ((suf.zipIdx k).map fun p => .tup [.int (p.2 : Nat), dLn p.1]) [.va (some 0) .f (dBook c t), .va (some 1) .f (w (os.map dLn)), x2, x3] = .nx [.va (some 0) .f (dBook c t), .va (some 1) .f (w (os.map dLn)), x2', x3']
    | some i => ∃ x2' x3', loopS (tupG 2 (consG (putG 2) (consG (putG 3) nilG))) (T_check_lines_1 c) ((suf.zipIdx k).map fun p => .tup [.int (p.2 : Nat), dLn p.1]) [.va (some 0) .f (dBook c t), .va (some 1) .f (w (os.map dLn)), x2, x3] = .ex c.BadText [("number", .int ((k + i : Nat) : Int))] [.va (some 0) .f (dBook c t), .va (some 1) .f (w (os.map dLn)), x2', x3']
  | [], k, x2, x3, h => ⟨x2, x3, rfl⟩
  | o :: suf, k, x2, x3, h => by
    have hl := is_line_any c t (o := o) (h o List.mem_cons_self)
    have e0 : T_check_lines_1 c [.va (some 0) .f (dBook c t), .va (some 1) .f (w (os.map dLn)), .va none .f (.int (k : Nat)), .va none .f (dLn o)] =
        if okLn t o = true then .nx [.va (some 0) .f (dBook c t), .va (some 1) .f (w (os.map dLn)), .va none .f (.int (k : Nat)), .va none .f (dLn o)] else .ex c.BadText [("number", .int (k : Int))] [.va (some 0) .f (dBook c t), .va (some 1) .f (w (os.map dLn)), .va none .f (.int (k : Nat)), .va none .f (dLn o)] := by
      unfold T_check_lines_1
      cases hk : okLn t o <;> simp -implicitDefEqProofs (disch := decreasing_trivial_pre_omega) [List.findIdx?_cons, List.getElem?_cons_zero, List.getElem?_cons_succ, List.getElem?_nil, dec_le, dec_le', dec_lt, dec_lt', dec_eq, dec_ne, -getElem?_pos, -getElem?_neg, hl, hk, fns_BadText]
    rw [List.findIdx?_cons]
    cases hk : okLn t o with
    | true =>
      have ih := check_lines_loop c t (w := w) (os := os) suf (k + 1) (.va none .f (.int (k : Nat))) (.va none .f (dLn o)) fun o m => h o (List.mem_cons_of_mem _ m)
      rw [hk, if_pos rfl] at e0
      have step : loopS (tupG 2 (consG (putG 2) (consG (putG 3) nilG))) (T_check_lines_1 c) (((o :: suf).zipIdx k).map fun p => .tup [.int (p.2 : Nat), dLn p.1]) [.va (some 0) .f (dBook c t), .va (some 1) .f (w (os.map dLn)), x2, x3] =
          loopS (tupG 2 (consG (putG 2) (consG (putG 3) nilG))) (T_check_lines_1 c) ((suf.zipIdx (k + 1)).map fun p => .tup [.int (p.2 : Nat), dLn p.1]) [.va (some 0) .f (dBook c t), .va (some 1) .f (w (os.map dLn)), .va none .f (.int (k : Nat)), .va none .f (dLn o)] := by
        rw [List.zipIdx_cons, List.map_cons, loopS_cons (ρ1 := [.va (some 0) .f (dBook c t), .va (some 1) .f (w (os.map dLn)), .va none .f (.int (k : Nat)), .va none .f (dLn o)]) (by simp), e0]
        rfl
      cases hf : suf.findIdx? (fun o => !okLn t o) with
      | none =>
        rw [hf] at ih
        obtain ⟨y2, y3, e⟩ := ih
        exact ⟨y2, y3, by rw [step, e]⟩
      | some i =>
        rw [hf] at ih
        obtain ⟨y2, y3, e⟩ := ih
        refine ⟨y2, y3, ?_⟩
        rw [step, e, show k + 1 + i = k + (i + 1) by omega]
    | false =>
      rw [hk, if_neg (by simp)] at e0
      refine ⟨.va none .f (.int (k : Nat)), .va none .f (dLn o), ?_⟩
      rw [List.zipIdx_cons, List.map_cons, loopS_cons (ρ1 := [.va (some 0) .f (dBook c t), .va (some 1) .f (w (os.map dLn)), .va none .f (.int (k : Nat)), .va none .f (dLn o)]) (by simp), e0]
      rfl
theorem check_lines_ (c : Cs) (t : Told) {w : List D → D} (hw : w = .lst ∨ w = .tup) {os : List (Option (List Nat))} (h : ∀ o ∈ os, ∀ l, o = some l → l.length ≤ 1000) (hl : os.length ≤ 1000) :
    f_check_lines c [(.f, dBook c t), (.f, w (os.map dLn))] = if 64 < os.length then .exc c.BadText [("number", .non)] [(.f, dBook c t), (.f, w (os.map dLn))] else
      match os.findIdx? (fun o => !okLn t o) with
      | none => .ret .f .non [(.f, dBook c t), (.f, w (os.map dLn))]
      | some i => .exc c.BadText [("number", .int (i : Int))] [(.f, dBook c t), (.f, w (os.map dLn))] := by
  have e := check_lines_loop c t (w := w) (os := os) os 0 .no .no h
  rw [← enumD_eq] at e
  unfold f_check_lines T_check_lines T_check_lines_2
  by_cases h6 : (64 : Int) < os.length
  · have h6' : 64 < os.length := by omega
    rw [if_pos h6']
    rcases hw with rfl | rfl <;> simp -implicitDefEqProofs (disch := decreasing_trivial_pre_omega) [List.findIdx?_cons, List.getElem?_cons_zero, List.getElem?_cons_succ, List.getElem?_nil, dec_le, dec_le', dec_lt, dec_lt', dec_eq, dec_ne, -getElem?_pos, -getElem?_neg, is_row_lst, is_row_tup, fns_BadText]
  · have h6' : ¬ 64 < os.length := by omega
    rw [if_neg h6']
    cases hf : os.findIdx? (fun o => !okLn t o) with
    | none =>
      rw [hf] at e
      obtain ⟨y2, y3, e⟩ := e
      rcases hw with rfl | rfl <;> simp -implicitDefEqProofs (disch := decreasing_trivial_pre_omega) [List.findIdx?_cons, List.getElem?_cons_zero, List.getElem?_cons_succ, List.getElem?_nil, dec_le, dec_le', dec_lt, dec_lt', dec_eq, dec_ne, -getElem?_pos, -getElem?_neg, is_row_lst, is_row_tup] at e ⊢ <;> simp -implicitDefEqProofs (disch := decreasing_trivial_pre_omega) [List.findIdx?_cons, List.getElem?_cons_zero, List.getElem?_cons_succ, List.getElem?_nil, dec_le, dec_le', dec_lt, dec_lt', dec_eq, dec_ne, -getElem?_pos, -getElem?_neg, e]
    | some i =>
      rw [hf] at e
      obtain ⟨y2, y3, e⟩ := e
      rcases hw with rfl | rfl <;> simp -implicitDefEqProofs (disch := decreasing_trivial_pre_omega) [List.findIdx?_cons, List.getElem?_cons_zero, List.getElem?_cons_succ, List.getElem?_nil, dec_le, dec_le', dec_lt, dec_lt', dec_eq, dec_ne, -getElem?_pos, -getElem?_neg, is_row_lst, is_row_tup] at e ⊢ <;> simp -implicitDefEqProofs (disch := decreasing_trivial_pre_omega) [List.findIdx?_cons, List.getElem?_cons_zero, List.getElem?_cons_succ, List.getElem?_nil, dec_le, dec_le', dec_lt, dec_lt', dec_eq, dec_ne, -getElem?_pos, -getElem?_neg, e]
end K02

namespace K02
open PySem PySem.Spec PyProof.Rows L2 FL
local macro_rules | `(tactic| decreasing_trivial_pre_omega) => `(tactic| first | omega | (simp only [List.length_map, List.length_append, List.length_cons, List.length_nil, List.length_replicate, List.length_take, List.length_drop, mkS_length]; omega))
theorem row_turn2 (c : Cs) {r : Row} {x : Nat} {late : Str} {a0 a1 a4 a5 a6 : Sl} {p2 p3 : Option Nat} : T_Book_row_1 c [a0, a1, .va p2 .f (.str (mkS [x])), .va p3 .f (.str late), a4, a5, a6, .va none .f (.tup (r.signs.map signD)), .va none .f (dNexts r.nexts), .va none .f (.str r.colour), .va none .f (dDeed r.deed)] =
    if rowHit x late r = true then .rt .f (.tup [.str r.colour, dDeed r.deed]) [a0, a1, .va p2 .f (.str (mkS [x])), .va p3 .f (.str late), a4, a5, a6, .va none .f (.tup (r.signs.map signD)), .va none .f (dNexts r.nexts), .va none .f (.str r.colour), .va none .f (dDeed r.deed)]
    else .nx [a0, a1, .va p2 .f (.str (mkS [x])), .va p3 .f (.str late), a4, a5, a6, .va none .f (.tup (r.signs.map signD)), .va none .f (dNexts r.nexts), .va none .f (.str r.colour), .va none .f (dDeed r.deed)] := by
  have e := hit_row r x
  have hq : ∀ n, (r.signs.map signD).all (eqable n) = true := fun n => by simp
  unfold rowHit T_Book_row_1
  cases h1 : (r.signs.any fun c => decide (c = x)) <;> cases hn : r.nexts with
  | none => simp -implicitDefEqProofs (disch := decreasing_trivial_pre_omega) [List.findIdx?_cons, List.getElem?_cons_zero, List.getElem?_cons_succ, List.getElem?_nil, dec_le, dec_le', dec_lt, dec_lt', dec_eq, dec_ne, -getElem?_pos, -getElem?_neg, e, h1, dNexts, hq, -List.any_map, -List.all_map]
  | some l =>
    have e2 := hit_next l late
    have hq2 : ∀ n, (l.map D.str).all (eqable n) = true := fun n => by simp
    cases h2 : (l.any fun y => decide (y = late)) <;> simp -implicitDefEqProofs (disch := decreasing_trivial_pre_omega) [List.findIdx?_cons, List.getElem?_cons_zero, List.getElem?_cons_succ, List.getElem?_nil, dec_le, dec_le', dec_lt, dec_lt', dec_eq, dec_ne, -getElem?_pos, -getElem?_neg, e, e2, h1, h2, dNexts, hq, hq2, -List.any_map, -List.all_map]
theorem book_row_ (c : Cs) {t : Told} {n : Str} (hn : n ∈ t.ms.map (·.1)) (x : Nat) (late : Str) :
    f_Book_row c [(.f, dBook c t), (.f, .str n), (.f, .str (mkS [x])), (.f, .str late)] = .ret .f (.tup [.str (rowM (modeOf t.ms n) x late).1, dDeed (rowM (modeOf t.ms n) x late).2]) [(.f, dBook c t), (.f, .str n), (.f, .str (mkS [x])), (.f, .str late)] := by
  have hv := (mode_get (t := t) hn).1
  have hf := fl_modes c t
  have h := loop_find (tg := tupG 4 (consG (putG 7) (consG (putG 8) (consG (putG 9) (consG (putG 10) nilG))))) (body := T_Book_row_1 c) (enc := dRow) (hit := rowHit x late) (res := fun r => .tup [.str r.colour, dDeed r.deed])
    (R := fun ρ => ∃ x7 x8 x9 x10, ρ = [.va (some 0) .f (dBook c t), .va (some 1) .f (.str n), .va (some 2) .f (.str (mkS [x])), .va (some 3) .f (.str late), .va none .f (.tup ((modeOf t.ms n).rows.map dRow)), .va none .f (.str (modeOf t.ms n).plain), .va none .f (dDeed (modeOf t.ms n).fin), x7, x8, x9, x10])
    (R' := fun ρ => ∃ x7 x8 x9 x10, ρ = [.va (some 0) .f (dBook c t), .va (some 1) .f (.str n), .va (some 2) .f (.str (mkS [x])), .va (some 3) .f (.str late), .va none .f (.tup ((modeOf t.ms n).rows.map dRow)), .va none .f (.str (modeOf t.ms n).plain), .va none .f (dDeed (modeOf t.ms n).fin), x7, x8, x9, x10]) (modeOf t.ms n).rows
    [.va (some 0) .f (dBook c t), .va (some 1) .f (.str n), .va (some 2) .f (.str (mkS [x])), .va (some 3) .f (.str late), .va none .f (.tup ((modeOf t.ms n).rows.map dRow)), .va none .f (.str (modeOf t.ms n).plain), .va none .f (dDeed (modeOf t.ms n).fin), .no, .no, .no, .no] ⟨_, _, _, _, rfl⟩ (by
      rintro r _ ρ ⟨x4, x5, x6, x7, rfl⟩
      have e := row_turn2 c (r := r) (x := x) (late := late) (a0 := .va (some 0) .f (dBook c t)) (a1 := .va (some 1) .f (.str n)) (p2 := some 2) (p3 := some 3) (a4 := .va none .f (.tup ((modeOf t.ms n).rows.map dRow))) (a5 := .va none .f (.str (modeOf t.ms n).plain)) (a6 := .va none .f (dDeed (modeOf t.ms n).fin))
      exact ⟨[.va (some 0) .f (dBook c t), .va (some 1) .f (.str n), .va (some 2) .f (.str (mkS [x])), .va (some 3) .f (.str late), .va none .f (.tup ((modeOf t.ms n).rows.map dRow)), .va none .f (.str (modeOf t.ms n).plain), .va none .f (dDeed (modeOf t.ms n).fin), .va none .f (.tup (r.signs.map signD)), .va none .f (dNexts r.nexts), .va none .f (.str r.colour), .va none .f (dDeed r.deed)], by simp [dRow], fun hh => ⟨_, by rw [e, if_pos hh], _, _, _, _, rfl⟩, fun hh => ⟨_, by rw [e, hh]; rfl, _, _, _, _, rfl⟩⟩)
  unfold f_Book_row T_Book_row T_Book_row_3 T_Book_row_2 rowM
  rcases h with ⟨r, ρ2, h1, h2, x4, x5, x6, x7, rfl⟩ | ⟨ρ2, h1, h2, x4, x5, x6, x7, rfl⟩
  · simp -implicitDefEqProofs (disch := decreasing_trivial_pre_omega) [List.findIdx?_cons, List.getElem?_cons_zero, List.getElem?_cons_succ, List.getElem?_nil, dec_le, dec_le', dec_lt, dec_lt', dec_eq, dec_ne, -getElem?_pos, -getElem?_neg, hf, hv, dMode, h1] at h2 ⊢
    simp -implicitDefEqProofs (disch := decreasing_trivial_pre_omega) [List.findIdx?_cons, List.getElem?_cons_zero, List.getElem?_cons_succ, List.getElem?_nil, dec_le, dec_le', dec_lt, dec_lt', dec_eq, dec_ne, -getElem?_pos, -getElem?_neg, h2]
  · simp -implicitDefEqProofs (disch := decreasing_trivial_pre_omega) [List.findIdx?_cons, List.getElem?_cons_zero, List.getElem?_cons_succ, List.getElem?_nil, dec_le, dec_le', dec_lt, dec_lt', dec_eq, dec_ne, -getElem?_pos, -getElem?_neg, hf, hv, dMode, h1, dDeed] at h2 ⊢
    simp -implicitDefEqProofs (disch := decreasing_trivial_pre_omega) [List.findIdx?_cons, List.getElem?_cons_zero, List.getElem?_cons_succ, List.getElem?_nil, dec_le, dec_le', dec_lt, dec_lt', dec_eq, dec_ne, -getElem?_pos, -getElem?_neg, h2, dDeed]
theorem book_done_ (c : Cs) {t : Told} {st : List Str} (h : StOk t st) (d : Deed) : f_Book_done c [(.f, dBook c t), (.f, dSt st), (.f, dDeed d)] = .ret .f (dSt (doneM t.deep st d)) [(.f, dBook c t), (.f, dSt st), (.f, dDeed d)] := by
  have hf := fl_deep c t
  have hc : cutD (st.map D.str) none (some (-1)) = st.dropLast.map .str := by rw [cutD_init, List.map_dropLast]
  have hl := h.ln
  unfold f_Book_done T_Book_done T_Book_done_2 T_Book_done_1
  cases d with
  | stay => simp -implicitDefEqProofs (disch := decreasing_trivial_pre_omega) [List.findIdx?_cons, List.getElem?_cons_zero, List.getElem?_cons_succ, List.getElem?_nil, dec_le, dec_le', dec_lt, dec_lt', dec_eq, dec_ne, -getElem?_pos, -getElem?_neg, dDeed, dSt, doneM]
  | pop =>
    by_cases h1 : (1 : Int) < (st.length : Nat)
    · have h1' : 1 < st.length := by omega
      simp -implicitDefEqProofs (disch := decreasing_trivial_pre_omega) [List.findIdx?_cons, List.getElem?_cons_zero, List.getElem?_cons_succ, List.getElem?_nil, dec_le, dec_le', dec_lt, dec_lt', dec_eq, dec_ne, -getElem?_pos, -getElem?_neg, dDeed, dSt, doneM, hc, h1', -List.map_dropLast]
    · have h1' : ¬ 1 < st.length := by omega
      simp -implicitDefEqProofs (disch := decreasing_trivial_pre_omega) [List.findIdx?_cons, List.getElem?_cons_zero, List.getElem?_cons_succ, List.getElem?_nil, dec_le, dec_le', dec_lt, dec_lt', dec_eq, dec_ne, -getElem?_pos, -getElem?_neg, dDeed, dSt, doneM, hc, h1', Nat.not_lt.mp h1']
  | push n =>
    by_cases h1 : (st.length : Int) < t.deep
    · simp -implicitDefEqProofs (disch := decreasing_trivial_pre_omega) [List.findIdx?_cons, List.getElem?_cons_zero, List.getElem?_cons_succ, List.getElem?_nil, dec_le, dec_le', dec_lt, dec_lt', dec_eq, dec_ne, -getElem?_pos, -getElem?_neg, dDeed, dSt, doneM, hf, h1]
    · simp -implicitDefEqProofs (disch := decreasing_trivial_pre_omega) [List.findIdx?_cons, List.getElem?_cons_zero, List.getElem?_cons_succ, List.getElem?_nil, dec_le, dec_le', dec_lt, dec_lt', dec_eq, dec_ne, -getElem?_pos, -getElem?_neg, dDeed, dSt, doneM, hf, h1, Int.not_lt.mp h1]
  | swap n =>
    simp -implicitDefEqProofs (disch := decreasing_trivial_pre_omega) [List.findIdx?_cons, List.getElem?_cons_zero, List.getElem?_cons_succ, List.getElem?_nil, dec_le, dec_le', dec_lt, dec_lt', dec_eq, dec_ne, -getElem?_pos, -getElem?_neg, dDeed, dSt, doneM, hc, -List.map_dropLast]
end K02

namespace K02
open PySem PySem.Spec PyProof.Rows L2 FL
local macro_rules | `(tactic| decreasing_trivial_pre_omega) => `(tactic| first | omega | (simp only [List.length_map, List.length_append, List.length_cons, List.length_nil, List.length_replicate, List.length_take, List.length_drop, mkS_length]; omega))
theorem book_step_ (c : Cs) {t : Told} (ht : t.ok2) {st : List Str} (h : StOk t st) (x : Nat) (late : Str) :
    f_Book_step c [(.f, dBook c t), (.f, dSt st), (.f, .str (mkS [x])), (.f, .str late)] = .ret .f (.tup [.str (rowM (modeOf t.ms (topOf st)) x late).1, dSt (doneM t.deep st (rowM (modeOf t.ms (topOf st)) x late).2)]) [(.f, dBook c t), (.f, dSt st), (.f, .str (mkS [x])), (.f, .str late)] := by
  have hn := h.mem _ (topOf_mem h.ne)
  have hrow := book_row_ c hn x late
  have hdone := book_done_ c h (rowM (modeOf t.ms (topOf st)) x late).2
  have htop := topOf_get h.ne
  unfold f_Book_step T_Book_step T_Book_step_1
  simp -implicitDefEqProofs (disch := decreasing_trivial_pre_omega) [List.findIdx?_cons, List.getElem?_cons_zero, List.getElem?_cons_succ, List.getElem?_nil, dec_le, dec_le', dec_lt, dec_lt', dec_eq, dec_ne, -getElem?_pos, -getElem?_neg, methE_ap, noM_row, noM_done, dSt, htop, hrow] at hdone ⊢
  simp -implicitDefEqProofs (disch := decreasing_trivial_pre_omega) [List.findIdx?_cons, List.getElem?_cons_zero, List.getElem?_cons_succ, List.getElem?_nil, dec_le, dec_le', dec_lt, dec_lt', dec_eq, dec_ne, -getElem?_pos, -getElem?_neg, hdone, methE_ap, noM_row, noM_done, dSt]
def dMet (met : List Str) : List (D × D) := met.map fun n => (.str n, .bl true)
theorem met_val (met : List Str) (n : Str) : (valD (dMet met) (.str n)).isSome = decide (n ∈ met) := by
  unfold valD dMet
  induction met with
  | nil => rfl
  | cons m met ih =>
    by_cases h : m = n
    · simp [h]
    · have h2 : n ≠ m := fun z => h z.symm
      simp only [List.map_cons, List.find?_cons, List.mem_cons] at ih ⊢
      have : decide (D.str m = D.str n) = false := by simp [h]
      rw [this]
      simp only
      rw [ih]
      simp [h2]
theorem met_put {met : List Str} {n : Str} (h : n ∉ met) : putD (dMet met) (.str n) (.bl true) = dMet (met ++ [n]) := by
  rw [putD_new]
  · simp [dMet]
  · intro kv hkv e
    obtain ⟨m, hm, rfl⟩ := List.mem_map.mp hkv
    simp at e
    exact h (e ▸ hm)
theorem nodup_sub_len : ∀ {l m : List Str}, l.Nodup → (∀ x ∈ l, x ∈ m) → l.length ≤ m.length
  | [], m, _, _ => Nat.zero_le _
  | x :: l, m, h, hs => by
    have hx := hs x List.mem_cons_self
    have := nodup_sub_len (l := l) (m := m.erase x) (List.nodup_cons.mp h).2 fun y hy => by
      have hne : y ≠ x := fun e => (List.nodup_cons.mp h).1 (e ▸ hy)
      exact (List.mem_erase_of_ne hne).mpr (hs y (List.mem_cons_of_mem _ hy))
    rw [List.length_erase_of_mem hx] at this
    have := List.length_pos_of_mem hx
    simp
    omega
theorem book_end (c : Cs) {t : Told} (ht : t.ok2) {p0 : Option Nat} : ∀ (f n : Nat) (st met : List Str) (p1 p2 : Option Nat), f ≤ n → t.ms.length < f + met.length → met.Nodup → (∀ m ∈ met, m ∈ t.ms.map (·.1)) → StOk t st →
    ∃ p1' p2' x2', (p1' = none ∨ p1' = p1 ∧ endM t f met st = st) ∧ whileS (isB (use2 notInDD (use2 ixDD (name 1) (use1 negD (konst (.int 1)))) (name 2))) (T_Book_ended_1 c) n [.va p0 .f (dBook c t), .va p1 .f (dSt st), .va p2 (.o .f) (.dct (dMet met))] =
      .nx [.va p0 .f (dBook c t), .va p1' .f (dSt (endM t f met st)), .va p2' (.o .f) (.dct x2')]
  | 0, n, st, met, p1, p2, hf, hl, hd, hm, hs => by
    have := nodup_sub_len hd hm
    simp at this
    omega
  | f + 1, 0, st, met, p1, p2, hf, hl, hd, hm, hs => by omega
  | f + 1, n + 1, st, met, p1, p2, hf, hl, hd, hm, hs => by
    have hn := hs.mem _ (topOf_mem hs.ne)
    have htop := topOf_get hs.ne
    have hv := (mode_get (t := t) hn).1
    have hfm := fl_modes c t
    have hdone := book_done_ c hs (modeOf t.ms (topOf st)).fin
    have hs' := doneM_ok ht hs (mode_ok ht hn).fi
    have hmv := met_val met (topOf st)
    have hml : (dMet met).length = met.length := by simp [dMet]
    have h3 := (names_len ht.o.nm).2
    have hlm := nodup_sub_len hd hm
    simp only [List.length_map] at hlm
    rw [whileS_ap]
    by_cases hin : topOf st ∈ met
    · refine ⟨p1, p2, dMet met, .inr ⟨rfl, by simp [endM, hin]⟩, ?_⟩
      simp -implicitDefEqProofs (disch := decreasing_trivial_pre_omega) [List.findIdx?_cons, List.getElem?_cons_zero, List.getElem?_cons_succ, List.getElem?_nil, dec_le, dec_le', dec_lt, dec_lt', dec_eq, dec_ne, -getElem?_pos, -getElem?_neg, dSt, htop, hmv, hin, endM]
    · obtain ⟨p1', p2', x2', hp, e⟩ := book_end c ht (p0 := p0) f n (doneM t.deep st (modeOf t.ms (topOf st)).fin) (met ++ [topOf st]) none p2 (by omega) (by simp; omega) (by
        rw [List.nodup_append]
        refine ⟨hd, by simp, fun a ha b hb e => ?_⟩
        rw [List.mem_singleton.mp hb] at e
        exact hin (e ▸ ha)) (fun m hm' => by
        rcases List.mem_append.mp hm' with h | h
        · exact hm m h
        · rw [List.mem_singleton.mp h]; exact hn) hs'
      refine ⟨p1', p2', x2', .inl (by rcases hp with h | h; exact h; exact h.1), ?_⟩
      have e1 : T_Book_ended_1 c [.va p0 .f (dBook c t), .va p1 .f (dSt st), .va p2 (.o .f) (.dct (dMet met))] = .nx [.va p0 .f (dBook c t), .va none .f (dSt (doneM t.deep st (modeOf t.ms (topOf st)).fin)), .va p2 (.o .f) (.dct (dMet (met ++ [topOf st])))] := by
        have hput := met_put hin
        unfold T_Book_ended_1
        simp -implicitDefEqProofs (disch := decreasing_trivial_pre_omega) [List.findIdx?_cons, List.getElem?_cons_zero, List.getElem?_cons_succ, List.getElem?_nil, dec_le, dec_le', dec_lt, dec_lt', dec_eq, dec_ne, -getElem?_pos, -getElem?_neg, methE_ap, noM_done, dSt, htop, hfm, hv, dMode, hput, hml] at hdone ⊢
        simp -implicitDefEqProofs (disch := decreasing_trivial_pre_omega) [List.findIdx?_cons, List.getElem?_cons_zero, List.getElem?_cons_succ, List.getElem?_nil, dec_le, dec_le', dec_lt, dec_lt', dec_eq, dec_ne, -getElem?_pos, -getElem?_neg, hdone]
      simp -implicitDefEqProofs (disch := decreasing_trivial_pre_omega) [List.findIdx?_cons, List.getElem?_cons_zero, List.getElem?_cons_succ, List.getElem?_nil, dec_le, dec_le', dec_lt, dec_lt', dec_eq, dec_ne, -getElem?_pos, -getElem?_neg, dSt, htop, hmv, hin] at e1 e ⊢
      simp -implicitDefEqProofs (disch := decreasing_trivial_pre_omega) [List.findIdx?_cons, List.getElem?_cons_zero, List.getElem?_cons_succ, List.getElem?_nil, dec_le, dec_le', dec_lt, dec_lt', dec_eq, dec_ne, -getElem?_pos, -getElem?_neg, e1, e, endM, hin, dSt]
theorem book_ended_ (c : Cs) {t : Told} (ht : t.ok2) {st : List Str} (h : StOk t st) : f_Book_ended c [(.f, dBook c t), (.f, dSt st)] = .ret .f (dSt (endOf t st)) [(.f, dBook c t), (.f, dSt st)] := by
  have h3 := (names_len ht.o.nm).2
  obtain ⟨p1, p2, x2, hp, e⟩ := book_end c ht (p0 := some 0) (t.ms.length + 1) 100 st [] (some 1) none (by omega) (by simp) (by simp) (by simp) h
  unfold f_Book_ended T_Book_ended T_Book_ended_3 T_Book_ended_2 endOf
  simp -implicitDefEqProofs (disch := decreasing_trivial_pre_omega) [List.findIdx?_cons, List.getElem?_cons_zero, List.getElem?_cons_succ, List.getElem?_nil, dec_le, dec_le', dec_lt, dec_lt', dec_eq, dec_ne, -getElem?_pos, -getElem?_neg, dMet] at e ⊢
  rcases hp with rfl | ⟨rfl, hp⟩
  · simp -implicitDefEqProofs (disch := decreasing_trivial_pre_omega) [List.findIdx?_cons, List.getElem?_cons_zero, List.getElem?_cons_succ, List.getElem?_nil, dec_le, dec_le', dec_lt, dec_lt', dec_eq, dec_ne, -getElem?_pos, -getElem?_neg, e]
  · simp -implicitDefEqProofs (disch := decreasing_trivial_pre_omega) [List.findIdx?_cons, List.getElem?_cons_zero, List.getElem?_cons_succ, List.getElem?_nil, dec_le, dec_le', dec_lt, dec_lt', dec_eq, dec_ne, -getElem?_pos, -getElem?_neg, e, hp]
theorem cut_next (pre : List Nat) (x : Nat) (suf : List Nat) : cutS (mkS (pre ++ x :: suf)) (some ((pre.length : Int) + 1)) (some ((pre.length : Int) + 2)) = headS suf := by
  have e1 : ((pre.length : Int) + 1) = ((pre.length + 1 : Nat) : Int) := by omega
  have e2 : ((pre.length : Int) + 2) = ((pre.length + 2 : Nat) : Int) := by omega
  have h1 : HT.sIx (pre ++ x :: suf).length 0 (some ((pre.length + 1 : Nat) : Int)) = min (pre.length + 1) (pre ++ x :: suf).length := HT.sIx_nat _ _ _
  have h2 : HT.sIx (pre ++ x :: suf).length (pre ++ x :: suf).length (some ((pre.length + 2 : Nat) : Int)) = min (pre.length + 2) (pre ++ x :: suf).length := HT.sIx_nat _ _ _
  rw [cutS_mkS, e1, e2, h1, h2]
  have h3 : min (pre.length + 1) (pre ++ x :: suf).length = pre.length + 1 := by simp
  have h4 : (pre ++ x :: suf).drop (pre.length + 1) = suf := by
    rw [show pre ++ x :: suf = (pre ++ [x]) ++ suf by simp, List.drop_left' (by simp)]
  rw [h3, h4]
  cases suf with
  | nil => simp [headS]; rfl
  | cons y r =>
    have : min (pre.length + 2) (pre ++ x :: y :: r).length - (pre.length + 1) = 1 := by simp
    rw [this]
    rfl
theorem walk_book (c : Cs) {t : Told} (ht : t.ok2) {p0 p2 : Option Nat} {L : List Nat} (hL : L.length ≤ 1000) : ∀ (suf pre : List Nat) (st : List Str) (acc : List Str) (p1 : Option Nat) (x4 x5 x6 : Sl), L = pre ++ suf → acc.length = pre.length → StOk t st →
    ∃ p1' x4' x5' x6', (p1' = none ∨ p1' = p1 ∧ (walkM t st suf).2 = st) ∧ loopS (tupG 2 (consG (putG 4) (consG (putG 5) nilG))) (T_coloured_1 c) ((suf.zipIdx pre.length).map fun p => .tup [.int (p.2 : Nat), signD p.1]) [.va p0 .f (dBook c t), .va p1 .f (dSt st), .va p2 .f (.str (mkS L)), .va none (.o .f) (.lst (acc.map .str)), x4, x5, x6] =
      .nx [.va p0 .f (dBook c t), .va p1' .f (dSt (walkM t st suf).2), .va p2 .f (.str (mkS L)), .va none (.o .f) (.lst ((acc ++ (walkM t st suf).1).map .str)), x4', x5', x6']
  | [], pre, st, acc, p1, x4, x5, x6, e, ha, hs => ⟨p1, x4, x5, x6, .inr ⟨rfl, rfl⟩, by simp [walkM]⟩
  | x :: suf, pre, st, acc, p1, x4, x5, x6, e, ha, hs => by
    have hn := hs.mem _ (topOf_mem hs.ne)
    have hstep := book_step_ c ht hs x (headS suf)
    have hs' := doneM_ok ht hs (rowM_ok (mode_ok ht hn) x (headS suf))
    subst e
    simp only [List.length_append, List.length_cons] at hL
    have hcut := cut_next pre x suf
    obtain ⟨p1', y4, y5, y6, hp, e2⟩ := walk_book c ht (p0 := p0) (p2 := p2) (L := pre ++ x :: suf) (by simp; omega) suf (pre ++ [x]) (doneM t.deep st (rowM (modeOf t.ms (topOf st)) x (headS suf)).2) (acc ++ [(rowM (modeOf t.ms (topOf st)) x (headS suf)).1]) none
      (.va none .f (.int (pre.length : Nat))) (.va none .f (signD x)) (.va none .f (.str (rowM (modeOf t.ms (topOf st)) x (headS suf)).1)) (by simp) (by simp [ha]) hs'
    refine ⟨p1', y4, y5, y6, .inl (by rcases hp with h | h; exact h; exact h.1), ?_⟩
    rw [List.zipIdx_cons, List.map_cons, loopS_cons (ρ1 := [.va p0 .f (dBook c t), .va p1 .f (dSt st), .va p2 .f (.str (mkS (pre ++ x :: suf))), .va none (.o .f) (.lst (acc.map .str)), .va none .f (.int (pre.length : Nat)), .va none .f (signD x), x6]) (by simp)]
    have e1 : T_coloured_1 c [.va p0 .f (dBook c t), .va p1 .f (dSt st), .va p2 .f (.str (mkS (pre ++ x :: suf))), .va none (.o .f) (.lst (acc.map .str)), .va none .f (.int (pre.length : Nat)), .va none .f (signD x), x6] =
        .nx [.va p0 .f (dBook c t), .va none .f (dSt (doneM t.deep st (rowM (modeOf t.ms (topOf st)) x (headS suf)).2)), .va p2 .f (.str (mkS (pre ++ x :: suf))), .va none (.o .f) (.lst ((acc ++ [(rowM (modeOf t.ms (topOf st)) x (headS suf)).1]).map .str)), .va none .f (.int (pre.length : Nat)), .va none .f (signD x), .va none .f (.str (rowM (modeOf t.ms (topOf st)) x (headS suf)).1)] := by
      unfold T_coloured_1
      simp -implicitDefEqProofs (disch := decreasing_trivial_pre_omega) [List.findIdx?_cons, List.getElem?_cons_zero, List.getElem?_cons_succ, List.getElem?_nil, dec_le, dec_le', dec_lt, dec_lt', dec_eq, dec_ne, -getElem?_pos, -getElem?_neg, methE_ap, noM_step, hcut, hstep]
    rw [e1]
    simpa [walkM] using e2
theorem coloured_ (c : Cs) {t : Told} (ht : t.ok2) {st : List Str} (hs : StOk t st) {L : List Nat} (hL : L.length ≤ 1000) :
    f_coloured c [(.f, dBook c t), (.f, dSt st), (.f, .str (mkS L))] = .ret .f (.tup [.tup ((lineM t st L).1.map .str), dSt (lineM t st L).2]) [(.f, dBook c t), (.f, dSt st), (.f, .str (mkS L))] := by
  obtain ⟨p1, x4, x5, x6, hp1, e1⟩ := walk_book c ht (p0 := some 0) (p2 := some 2) hL L [] st [] (some 1) .no .no .no rfl rfl hs
  obtain ⟨hs', hlen⟩ := walkM_ok ht L hs
  have he := book_ended_ c ht hs'
  unfold f_coloured T_coloured T_coloured_3 T_coloured_2
  rw [List.length_nil, ← enumD_eq] at e1
  simp -implicitDefEqProofs (disch := decreasing_trivial_pre_omega) [List.findIdx?_cons, List.getElem?_cons_zero, List.getElem?_cons_succ, List.getElem?_nil, dec_le, dec_le', dec_lt, dec_lt', dec_eq, dec_ne, -getElem?_pos, -getElem?_neg] at e1 ⊢
  rcases hp1 with rfl | ⟨rfl, hp⟩
  · simp -implicitDefEqProofs (disch := decreasing_trivial_pre_omega) [List.findIdx?_cons, List.getElem?_cons_zero, List.getElem?_cons_succ, List.getElem?_nil, dec_le, dec_le', dec_lt, dec_lt', dec_eq, dec_ne, -getElem?_pos, -getElem?_neg, e1, methE_ap, noM_ended, he, lineM]
  · rw [hp] at e1 he
    simp -implicitDefEqProofs (disch := decreasing_trivial_pre_omega) [List.findIdx?_cons, List.getElem?_cons_zero, List.getElem?_cons_succ, List.getElem?_nil, dec_le, dec_le', dec_lt, dec_lt', dec_eq, dec_ne, -getElem?_pos, -getElem?_neg, e1, methE_ap, noM_ended, he, lineM, hp]
end K02

namespace K02
open PySem PySem.Spec PyProof.Rows L2 FL
local macro_rules | `(tactic| decreasing_trivial_pre_omega) => `(tactic| first | omega | (simp only [List.length_map, List.length_append, List.length_cons, List.length_nil, List.length_replicate, List.length_take, List.length_drop, mkS_length]; omega))
theorem colour_text_loop (c : Cs) {t : Told} (ht : t.ok2) {x0 x1 : Sl} (h0 : x0 = .va (some 0) .f (dBook c t)) : ∀ (ls : List (List Nat)) (st : List Str) (acc : List (List Str × List Str)) (x4 x5 x6 : Sl), (∀ l ∈ ls, l.length ≤ 1000) → acc.length + ls.length ≤ 1000 → StOk t st →
    ∃ x4' x5' x6', loopS (putG 4) (T_colour_text_2 c) (ls.map fun l => .str (mkS l)) [x0, x1, .va none (.o .f) (.lst (acc.map dDue)), .va none .f (dSt st), x4, x5, x6] =
      .nx [x0, x1, .va none (.o .f) (.lst ((acc ++ (textM t st ls).1).map dDue)), .va none .f (dSt (textM t st ls).2), x4', x5', x6']
  | [], st, acc, x4, x5, x6, h, hl, hs => ⟨x4, x5, x6, by simp [textM]⟩
  | l :: ls, st, acc, x4, x5, x6, h, hl, hs => by
    have hline := coloured_ c ht hs (h l List.mem_cons_self)
    simp only [List.length_cons] at hl
    obtain ⟨y4, y5, y6, e2⟩ := colour_text_loop c ht (x1 := x1) h0 ls (lineM t st l).2 (acc ++ [(st, (lineM t st l).1)]) (.va none .f (.str (mkS l))) (.va none .f (.tup ((lineM t st l).1.map .str))) (.va none .f (dSt (lineM t st l).2)) (fun l m => h l (List.mem_cons_of_mem _ m)) (by simp; omega) (lineM_ok ht l hs)
    refine ⟨y4, y5, y6, ?_⟩
    rw [List.map_cons, loopS_cons (ρ1 := [x0, x1, .va none (.o .f) (.lst (acc.map dDue)), .va none .f (dSt st), .va none .f (.str (mkS l)), x5, x6]) (by simp)]
    have e1 : T_colour_text_2 c [x0, x1, .va none (.o .f) (.lst (acc.map dDue)), .va none .f (dSt st), .va none .f (.str (mkS l)), x5, x6] =
        .nx [x0, x1, .va none (.o .f) (.lst ((acc ++ [(st, (lineM t st l).1)]).map dDue)), .va none .f (dSt (lineM t st l).2), .va none .f (.str (mkS l)), .va none .f (.tup ((lineM t st l).1.map .str)), .va none .f (dSt (lineM t st l).2)] := by
      subst h0
      unfold T_colour_text_2 T_colour_text_1
      simp -implicitDefEqProofs (disch := decreasing_trivial_pre_omega) [List.findIdx?_cons, List.getElem?_cons_zero, List.getElem?_cons_succ, List.getElem?_nil, dec_le, dec_le', dec_lt, dec_lt', dec_eq, dec_ne, -getElem?_pos, -getElem?_neg, dSt, dDue, hline] at hline ⊢
    rw [e1]
    simpa [textM] using e2
theorem lines_good {t : Told} {ls : List (List Nat)} (h : ∀ l ∈ ls, inSigns t l = true) : (ls.map some).findIdx? (fun o => !okLn t o) = none := by
  rw [List.findIdx?_eq_none_iff]
  intro o ho
  obtain ⟨l, hl, rfl⟩ := List.mem_map.mp ho
  simp [okLn, h l hl]
theorem in_len {t : Told} {l : List Nat} (h : inSigns t l = true) : l.length ≤ 80 := by
  unfold inSigns at h
  rw [Bool.and_eq_true, decide_eq_true_iff] at h
  exact h.1
theorem dLn_map (ls : List (List Nat)) : (ls.map some).map dLn = ls.map fun l => .str (mkS l) := by
  rw [List.map_map]
  rfl
theorem stFirst {t : Told} (ht : t.ok2) : StOk t [t.first] := ⟨by simp, fun n hn => by rw [List.mem_singleton.mp hn]; exact ht.o.fi, by simp, by have := ht.o.d0; simp; omega⟩
theorem colour_text_ (c : Cs) {t : Told} (ht : t.ok2) {w : List D → D} (hw : w = .lst ∨ w = .tup) {ls : List (List Nat)} (h : ∀ l ∈ ls, inSigns t l = true) (hl : ls.length ≤ 64) :
    f_colour_text c [(.f, dBook c t), (.f, w (ls.map fun l => .str (mkS l)))] = .ret .f (.lst ((textM t [t.first] ls).1.map dDue)) [(.f, dBook c t), (.f, w (ls.map fun l => .str (mkS l)))] := by
  have hc := check_lines_ c t hw (os := ls.map some) (fun o ho l e => by
    obtain ⟨l', hl', rfl⟩ := List.mem_map.mp ho
    cases e
    have := in_len (h _ hl')
    omega) (by simp; omega)
  rw [lines_good h, dLn_map, if_neg (by simp; omega)] at hc
  have hb := check_book_ c t
  have hf := fl_first c t
  obtain ⟨x4, x5, x6, e⟩ := colour_text_loop c ht (x1 := .va (some 1) .f (w (ls.map fun l => .str (mkS l)))) rfl ls [t.first] [] .no .no .no (fun l hl => by have := in_len (h l hl); omega) (by simp; omega) (stFirst ht)
  unfold f_colour_text T_colour_text T_colour_text_6 T_colour_text_5 T_colour_text_4 T_colour_text_3
  rcases hw with rfl | rfl
  · simp -implicitDefEqProofs (disch := decreasing_trivial_pre_omega) [List.findIdx?_cons, List.getElem?_cons_zero, List.getElem?_cons_succ, List.getElem?_nil, dec_le, dec_le', dec_lt, dec_lt', dec_eq, dec_ne, -getElem?_pos, -getElem?_neg, hb, hc, hf, dSt] at e ⊢
    simp -implicitDefEqProofs (disch := decreasing_trivial_pre_omega) [List.findIdx?_cons, List.getElem?_cons_zero, List.getElem?_cons_succ, List.getElem?_nil, dec_le, dec_le', dec_lt, dec_lt', dec_eq, dec_ne, -getElem?_pos, -getElem?_neg, e]
  · simp -implicitDefEqProofs (disch := decreasing_trivial_pre_omega) [List.findIdx?_cons, List.getElem?_cons_zero, List.getElem?_cons_succ, List.getElem?_nil, dec_le, dec_le', dec_lt, dec_lt', dec_eq, dec_ne, -getElem?_pos, -getElem?_neg, hb, hc, hf, dSt] at e ⊢
    simp -implicitDefEqProofs (disch := decreasing_trivial_pre_omega) [List.findIdx?_cons, List.getElem?_cons_zero, List.getElem?_cons_succ, List.getElem?_nil, dec_le, dec_le', dec_lt, dec_lt', dec_eq, dec_ne, -getElem?_pos, -getElem?_neg, e]
theorem colour_line_ (c : Cs) {t : Told} (ht : t.ok2) {st : List Str} (hs : StOk t st) {l : List Nat} (h : inSigns t l = true) :
    f_colour_line c [(.f, dBook c t), (.f, dSt st), (.f, .str (mkS l))] = .ret .f (.tup [.tup ((lineM t st l).1.map .str), dSt (lineM t st l).2]) [(.f, dBook c t), (.f, dSt st), (.f, .str (mkS l))] := by
  have hc := check_lines_ c t (.inl rfl) (os := [some l]) (fun o ho l' e => by
    rw [List.mem_singleton] at ho
    subst ho
    cases e
    have := in_len h
    omega) (by simp)
  have hg := lines_good (t := t) (ls := [l]) (by simpa using h)
  simp only [List.map_cons, List.map_nil] at hg hc
  rw [hg, if_neg (by simp)] at hc
  have hc : f_check_lines c [(.f, dBook c t), (.f, .lst [.str (mkS l)])] = .ret .f .non [(.f, dBook c t), (.f, .lst [.str (mkS l)])] := hc
  have hb := check_book_ c t
  have hst := check_stack_ c ht hs
  have hl := coloured_ c ht hs (L := l) (by have := in_len h; omega)
  unfold f_colour_line T_colour_line T_colour_line_3 T_colour_line_2 T_colour_line_1
  simp -implicitDefEqProofs (disch := decreasing_trivial_pre_omega) [List.findIdx?_cons, List.getElem?_cons_zero, List.getElem?_cons_succ, List.getElem?_nil, dec_le, dec_le', dec_lt, dec_lt', dec_eq, dec_ne, -getElem?_pos, -getElem?_neg, hb, hst, hc, hl]
/-! drawn lines -/
theorem signs_ (c : Cs) (ns : List Int) (hb : ns.length < 1000000) (k : Int) {S : Str} (hS : S.cps.size ≤ 6) (hS0 : S.cps.toList ≠ []) {most : Int} (hm : 0 < most) (hm2 : most ≤ 100) :
    ∃ (k' : Int) (l : List Nat), (l.length : Int) < most ∧ (∀ x ∈ l, hasS S x = true) ∧ f__law_signs c [drw ns k, (.f, .str S), (.f, .int most)] = .ret .f (.str (mkS l)) [drw ns k', (.f, .str S), (.f, .int most)] := by
  have loop : ∀ (ds : List D) (l : List Nat) (k : Int) (x4 : Sl), l.length + ds.length ≤ 100 → (∀ x ∈ l, hasS S x = true) → ∃ (k' : Int) (l' : List Nat) (x4' : Sl), l'.length = l.length + ds.length ∧ (∀ x ∈ l', hasS S x = true) ∧
      loopS (putG 4) (T__law_signs_1 c) ds [.va (some 0) (drw ns k).1 (drw ns k).2, .va (some 1) .f (.str S), .va (some 2) .f (.int most), .va none .f (.str (mkS l)), x4] = .nx [.va (some 0) (drw ns k').1 (drw ns k').2, .va (some 1) .f (.str S), .va (some 2) .f (.int most), .va none .f (.str (mkS l')), x4'] := by
    intro ds
    induction ds with
    | nil => exact fun l k x4 hl ho => ⟨k, l, x4, by simp, ho, rfl⟩
    | cons d ds ih =>
      intro l k x4 hl ho
      simp only [List.length_cons] at hl
      obtain ⟨xd, hxd, ep⟩ := pick_ c ns hb k (S.cps.toList.map signD) (by simpa using hS0) .f (.inl rfl)
      obtain ⟨x, hx, rfl⟩ := List.mem_map.mp hxd
      obtain ⟨k', l', x4', h1, h2, e2⟩ := ih (l ++ [x]) (k + 1) (.va none .f d) (by simp; omega) (by
        intro y hy
        rcases List.mem_append.mp hy with hy | hy
        · exact ho y hy
        · rw [List.mem_singleton.mp hy]
          unfold hasS
          exact decide_eq_true hx)
      refine ⟨k', l', x4', by simp at h1 ⊢; omega, h2, ?_⟩
      rw [loopS_cons (ρ1 := [.va (some 0) (drw ns k).1 (drw ns k).2, .va (some 1) .f (.str S), .va (some 2) .f (.int most), .va none .f (.str (mkS l)), .va none .f d]) (by simp)]
      have hz : S.length ≤ 6 := hS
      have e1 : T__law_signs_1 c [.va (some 0) (drw ns k).1 (drw ns k).2, .va (some 1) .f (.str S), .va (some 2) .f (.int most), .va none .f (.str (mkS l)), .va none .f d] = .nx [.va (some 0) (drw ns (k + 1)).1 (drw ns (k + 1)).2, .va (some 1) .f (.str S), .va (some 2) .f (.int most), .va none .f (.str (mkS (l ++ [x]))), .va none .f d] := by
        unfold T__law_signs_1
        unfold drw at ep ⊢
        simp -implicitDefEqProofs (disch := decreasing_trivial_pre_omega) [List.findIdx?_cons, List.getElem?_cons_zero, List.getElem?_cons_succ, List.getElem?_nil, dec_le, dec_le', dec_lt, dec_lt', dec_eq, dec_ne, -getElem?_pos, -getElem?_neg, ep, mkS_app]
      rw [e1]
      exact e2
  obtain ⟨z, h0, h1, et⟩ := take_ c ns hb k most hm
  obtain ⟨k', l, x4, h2, h3, e⟩ := loop (rangeD 0 z) [] (k + 1) .no (by simp [rangeD]; omega) (by simp)
  have hr : rng1 [z] = some z := range_rng1 h0 (by omega)
  have e0 : (Str.ofString "") = mkS [] := by decide
  refine ⟨k', l, by simp [rangeD] at h2; omega, h3, ?_⟩
  unfold f__law_signs T__law_signs T__law_signs_3 T__law_signs_2
  unfold drw at et e ⊢
  simp -implicitDefEqProofs (disch := decreasing_trivial_pre_omega) [List.findIdx?_cons, List.getElem?_cons_zero, List.getElem?_cons_succ, List.getElem?_nil, dec_le, dec_le', dec_lt, dec_lt', dec_eq, dec_ne, -getElem?_pos, -getElem?_neg, et, hr, e0] at e ⊢
  simp -implicitDefEqProofs (disch := decreasing_trivial_pre_omega) [List.findIdx?_cons, List.getElem?_cons_zero, List.getElem?_cons_succ, List.getElem?_nil, dec_le, dec_le', dec_lt, dec_lt', dec_eq, dec_ne, -getElem?_pos, -getElem?_neg, e]
theorem lines_ (c : Cs) (ns : List Int) (hb : ns.length < 1000000) (k : Int) {S : Str} (hS : S.cps.size ≤ 6) (hS0 : S.cps.toList ≠ []) {many most : Int} (hy : 0 < many) (hy2 : many ≤ 100) (hm : 0 < most) (hm2 : most ≤ 100) :
    ∃ (k' : Int) (ls : List (List Nat)), (ls.length : Int) < many ∧ (∀ l ∈ ls, (l.length : Int) < most ∧ ∀ x ∈ l, hasS S x = true) ∧ f__law_lines c [drw ns k, (.f, .str S), (.f, .int many), (.f, .int most)] = .ret .f (.lst (ls.map fun l => .str (mkS l))) [drw ns k', (.f, .str S), (.f, .int many), (.f, .int most)] := by
  obtain ⟨z, h0, h1, et⟩ := take_ c ns hb k many hy
  have hr : rng1 [z] = some z := range_rng1 h0 (by omega)
  obtain ⟨r, ρ', e, ⟨k', rfl⟩, h2, h3⟩ := lcL_state (vs := [4]) (g := putG 4) (tt := yesB) (te := frzD (callE (f__law_signs c) (consA (name 0) (consA (name 1) (consA (name 3) nilA))))) (enc := fun i : Nat => D.int (i : Int))
    (R := fun ρ => ∃ k, ρ = [.va (some 0) (drw ns k).1 (drw ns k).2, .va (some 1) .f (.str S), .va (some 2) .f (.int many), .va (some 3) .f (.int most), .no]) (P := fun d => ∃ l : List Nat, d = .str (mkS l) ∧ (l.length : Int) < most ∧ ∀ x ∈ l, hasS S x = true)
    (List.range z.toNat) [] [.va (some 0) (drw ns (k + 1)).1 (drw ns (k + 1)).2, .va (some 1) .f (.str S), .va (some 2) .f (.int many), .va (some 3) .f (.int most), .no] ⟨_, rfl⟩ (by
      rintro i _ ρ ⟨k, rfl⟩
      obtain ⟨k', l, h1, h2, es⟩ := signs_ c ns hb k hS hS0 hm hm2
      refine ⟨.str (mkS l), [.va (some 0) (drw ns k').1 (drw ns k').2, .va (some 1) .f (.str S), .va (some 2) .f (.int many), .va (some 3) .f (.int most), .no], ?_, ⟨k', rfl⟩, l, rfl, h1, h2⟩
      unfold drw at es ⊢
      simp -implicitDefEqProofs (disch := decreasing_trivial_pre_omega) [List.findIdx?_cons, List.getElem?_cons_zero, List.getElem?_cons_succ, List.getElem?_nil, dec_le, dec_le', dec_lt, dec_lt', dec_eq, dec_ne, -getElem?_pos, -getElem?_neg, es]) (by simp; omega)
  have hls : ∃ ls : List (List Nat), r = ls.map (fun l => .str (mkS l)) ∧ ∀ l ∈ ls, (l.length : Int) < most ∧ ∀ x ∈ l, hasS S x = true := by
    clear e h2
    induction r with
    | nil => exact ⟨[], rfl, by simp⟩
    | cons d r ih =>
      obtain ⟨ls, rfl, h4⟩ := ih fun e m => h3 e (List.mem_cons_of_mem _ m)
      obtain ⟨l, rfl, h5⟩ := h3 d List.mem_cons_self
      refine ⟨l :: ls, rfl, fun l' hl' => ?_⟩
      rcases List.mem_cons.mp hl' with rfl | hl'
      · exact h5
      · exact h4 l' hl'
  obtain ⟨ls, rfl, h4⟩ := hls
  refine ⟨k', ls, ?_, h4, ?_⟩
  · simp at h2
    omega
  · have hz : rangeD 0 z = (List.range z.toNat).map fun i : Nat => D.int (i : Int) := by
      unfold rangeD
      simp
    unfold f__law_lines T__law_lines T__law_lines_1
    unfold drw at et e ⊢
    simp -implicitDefEqProofs (disch := decreasing_trivial_pre_omega) [List.findIdx?_cons, List.getElem?_cons_zero, List.getElem?_cons_succ, List.getElem?_nil, dec_le, dec_le', dec_lt, dec_lt', dec_eq, dec_ne, -getElem?_pos, -getElem?_neg, et, hr, hz] at e ⊢
    simp -implicitDefEqProofs (disch := decreasing_trivial_pre_omega) [List.findIdx?_cons, List.getElem?_cons_zero, List.getElem?_cons_succ, List.getElem?_nil, dec_le, dec_le', dec_lt, dec_lt', dec_eq, dec_ne, -getElem?_pos, -getElem?_neg, e]
end K02

namespace K02
open PySem PySem.Spec PyProof.Rows L2 FL
local macro_rules | `(tactic| decreasing_trivial_pre_omega) => `(tactic| first | omega | (simp only [List.length_map, List.length_append, List.length_cons, List.length_nil, List.length_replicate, List.length_take, List.length_drop, mkS_length]; omega))
/-! spans -/
abbrev Sp3 := Nat × Nat × Str
def dSpan (x : Sp3) : D := .tup [.int (x.1 : Nat), .int (x.2.1 : Nat), .str x.2.2]
def spStep (f : List Sp3) (p : Str × Nat) : List Sp3 := match f.getLast? with
  | some x => if x.2.2 = p.1 then f.dropLast ++ [(x.1, p.2, p.1)] else f ++ [(p.2, p.2, p.1)]
  | none => [(p.2, p.2, p.1)]
def spansM (cs : List Str) : List Sp3 := cs.zipIdx.foldl spStep []
theorem nil_or_snoc {α : Type} (l : List α) : l = [] ∨ ∃ g x, l = g ++ [x] := by
  rcases List.eq_nil_or_concat l with h | ⟨g, x, h⟩
  · exact .inl h
  · exact .inr ⟨g, x, by rw [h, List.concat_eq_append]⟩
theorem spStep_len (f : List Sp3) (p : Str × Nat) : (spStep f p).length ≤ f.length + 1 := by
  unfold spStep
  cases e : f.getLast? with
  | none => simp
  | some x => by_cases h : x.2.2 = p.1 <;> simp [h] <;> omega
theorem spFold_len : ∀ (l : List (Str × Nat)) (f : List Sp3), (l.foldl spStep f).length ≤ f.length + l.length
  | [], f => by simp
  | p :: l, f => by
    have := spFold_len l (spStep f p)
    have := spStep_len f p
    simp
    omega
theorem spans_turn (c : Cs) {f : List Sp3} {x0 : Sl} {p : Str × Nat} (hl : f.length ≤ 1000) : T_spans_1 c [x0, .va none (.o .f) (.lst (f.map dSpan)), .va none .f (.int (p.2 : Nat)), .va none .f (.str p.1)] =
    .nx [x0, .va none (.o .f) (.lst ((spStep f p).map dSpan)), .va none .f (.int (p.2 : Nat)), .va none .f (.str p.1)] := by
  unfold T_spans_1 spStep
  have hq : ∀ n, (f.map dSpan).all (eqable (n + 1)) = true := fun n => by simp [dSpan]
  rcases nil_or_snoc f with rfl | ⟨g, x, rfl⟩
  · simp -implicitDefEqProofs (disch := decreasing_trivial_pre_omega) [List.findIdx?_cons, List.getElem?_cons_zero, List.getElem?_cons_succ, List.getElem?_nil, dec_le, dec_le', dec_lt, dec_lt', dec_eq, dec_ne, -getElem?_pos, -getElem?_neg, dSpan]
  · have hlast : atI ((g ++ [x]).map dSpan) (-1) = some (dSpan x) := by
      rw [List.map_append]
      exact atI_last_snoc
    have hix : ixN (g.length + 1) (-1) = some g.length := by
      unfold ixN
      rw [if_neg (by decide), if_pos (by omega)]
      congr 1
      omega
    simp only [List.length_append, List.length_cons, List.length_nil] at hl
    have hne : ((g ++ [x]).map dSpan).isEmpty = false := by cases g <;> rfl
    have heq := eqD_lst_nil (xs := (g ++ [x]).map dSpan)
    rw [hne] at heq
    have hset : ((g ++ [x]).map dSpan).set g.length (.tup [.int (x.1 : Nat), .int (p.2 : Nat), .str p.1]) = (g ++ [(x.1, p.2, p.1)]).map dSpan := by
      simp [List.set_append, dSpan]
    have hlen : ((g ++ [x]).map dSpan).length = g.length + 1 := by simp
    by_cases h : x.2.2 = p.1
    · simp -implicitDefEqProofs (disch := decreasing_trivial_pre_omega) [List.findIdx?_cons, List.getElem?_cons_zero, List.getElem?_cons_succ, List.getElem?_nil, dec_le, dec_le', dec_lt, dec_lt', dec_eq, dec_ne, -getElem?_pos, -getElem?_neg, hq, heq, hlast, dSpan, h, hix, hset, hlen, -List.map_append, -eqD_lst]
      try simp [dSpan]
    · simp -implicitDefEqProofs (disch := decreasing_trivial_pre_omega) [List.findIdx?_cons, List.getElem?_cons_zero, List.getElem?_cons_succ, List.getElem?_nil, dec_le, dec_le', dec_lt, dec_lt', dec_eq, dec_ne, -getElem?_pos, -getElem?_neg, hq, heq, hlast, dSpan, h, hlen, -List.map_append, -eqD_lst]
      try simp [dSpan]
theorem spans_ (c : Cs) {cs : List Str} (hl : cs.length ≤ 1000) : f_spans c [(.f, .tup (cs.map .str))] = .ret .f (.lst ((spansM cs).map dSpan)) [(.f, .tup (cs.map .str))] := by
  obtain ⟨ρ', e, x2, x3, rfl⟩ := loop_along (tg := tupG 2 (consG (putG 2) (consG (putG 3) nilG))) (body := T_spans_1 c) (enc := fun p : Str × Nat => .tup [.int (p.2 : Nat), .str p.1]) (L := cs.zipIdx)
    (R := fun pre ρ => ∃ x2 x3, ρ = [.va (some 0) .f (.tup (cs.map .str)), .va none (.o .f) (.lst ((pre.foldl spStep []).map dSpan)), x2, x3]) (by
      rintro pre p post ρ hL ⟨x2, x3, rfl⟩
      have h1 := spFold_len pre []
      have h2 := congrArg List.length hL
      simp at h1 h2
      have e := spans_turn c (f := pre.foldl spStep []) (x0 := .va (some 0) .f (.tup (cs.map .str))) (p := p) (by omega)
      refine ⟨[.va (some 0) .f (.tup (cs.map .str)), .va none (.o .f) (.lst ((pre.foldl spStep []).map dSpan)), .va none .f (.int (p.2 : Nat)), .va none .f (.str p.1)], by simp, _, .inl e, .va none .f (.int (p.2 : Nat)), .va none .f (.str p.1), ?_⟩
      rw [List.foldl_append]
      rfl) cs.zipIdx [] [.va (some 0) .f (.tup (cs.map .str)), .va none (.o .f) (.lst []), .no, .no] rfl ⟨_, _, rfl⟩
  rw [← enumD_eq] at e
  unfold f_spans T_spans T_spans_3 T_spans_2
  simp -implicitDefEqProofs (disch := decreasing_trivial_pre_omega) [List.findIdx?_cons, List.getElem?_cons_zero, List.getElem?_cons_succ, List.getElem?_nil, dec_le, dec_le', dec_lt, dec_lt', dec_eq, dec_ne, -getElem?_pos, -getElem?_neg] at e ⊢
  simp -implicitDefEqProofs (disch := decreasing_trivial_pre_omega) [List.findIdx?_cons, List.getElem?_cons_zero, List.getElem?_cons_succ, List.getElem?_nil, dec_le, dec_le', dec_lt, dec_lt', dec_eq, dec_ne, -getElem?_pos, -getElem?_neg, e, spansM]
/-! what spans are -/
def spreadM : List Sp3 → List Str
  | [] => []
  | x :: r => List.replicate (x.2.1 + 1 - x.1) x.2.2 ++ spreadM r
def okPair (x y : Sp3) : Prop := x.2.1 + 1 = y.1 ∧ x.2.2 ≠ y.2.2
def chainM : List Sp3 → Prop
  | x :: y :: r => okPair x y ∧ chainM (y :: r)
  | _ => True
theorem spread_app (f g : List Sp3) : spreadM (f ++ g) = spreadM f ++ spreadM g := by
  induction f with
  | nil => rfl
  | cons x f ih => simp [spreadM, ih]
theorem chain_snoc : ∀ (g : List Sp3) (x y : Sp3), chainM (g ++ [x]) → okPair x y → chainM (g ++ [x] ++ [y])
  | [], x, y, _, h => ⟨h, trivial⟩
  | [a], x, y, h, h2 => ⟨h.1, h2, trivial⟩
  | a :: b :: g, x, y, h, h2 => ⟨h.1, chain_snoc (b :: g) x y h.2 h2⟩
theorem chain_end : ∀ (g : List Sp3) (a b b' : Nat) (cl : Str), chainM (g ++ [(a, b, cl)]) → chainM (g ++ [(a, b', cl)])
  | [], a, b, b', cl, _ => trivial
  | [x], a, b, b', cl, h => ⟨h.1, trivial⟩
  | x :: y :: g, a, b, b', cl, h => ⟨h.1, chain_end (y :: g) a b b' cl h.2⟩
structure SpInv (f : List Sp3) (cs : List Str) : Prop where
  sp : spreadM f = cs
  ch : chainM f
  hd : ∀ x, f.head? = some x → x.1 = 0
  la : ∀ x, f.getLast? = some x → x.2.1 + 1 = cs.length ∧ x.1 ≤ x.2.1
  al : ∀ x ∈ f, x.1 ≤ x.2.1 ∧ x.2.1 < cs.length
theorem sp_step {f : List Sp3} {cs : List Str} (h : SpInv f cs) (hz : f = [] → cs = []) (cl : Str) : SpInv (spStep f (cl, cs.length)) (cs ++ [cl]) ∧ spStep f (cl, cs.length) ≠ [] := by
  rcases nil_or_snoc f with rfl | ⟨g, ⟨a, b, c⟩, rfl⟩
  · have := hz rfl
    subst this
    exact ⟨⟨by simp [spStep, spreadM], trivial, by simp [spStep], by simp [spStep], by simp [spStep]⟩, by simp [spStep]⟩
  · obtain ⟨h1, h2, h3, h4, h5⟩ := h
    obtain ⟨h6, h7⟩ := h4 (a, b, c) (by simp)
    simp only at h6 h7
    by_cases hc : c = cl
    · subst hc
      have e : spStep (g ++ [(a, b, c)]) (c, cs.length) = g ++ [(a, cs.length, c)] := by simp [spStep]
      rw [e]
      refine ⟨⟨?_, chain_end g a b _ c h2, ?_, ?_, ?_⟩, by simp⟩
      · have e2 : List.replicate (cs.length + 1 - a) c = List.replicate (b + 1 - a) c ++ [c] := by
          rw [show cs.length + 1 - a = (b + 1 - a) + 1 by omega, List.replicate_succ']
        rw [spread_app] at h1 ⊢
        simp only [spreadM, List.append_nil] at h1 ⊢
        rw [e2, ← List.append_assoc, h1]
      · intro x hx
        cases g with
        | nil => simp at hx; subst hx; exact h3 (a, b, c) rfl
        | cons y g => exact h3 x hx
      · intro x hx
        simp at hx
        subst hx
        simp
        omega
      · intro x hx
        rcases List.mem_append.mp hx with hx | hx
        · have := h5 x (List.mem_append_left _ hx)
          simp
          omega
        · rw [List.mem_singleton.mp hx]
          simp
          omega
    · have e : spStep (g ++ [(a, b, c)]) (cl, cs.length) = g ++ [(a, b, c)] ++ [(cs.length, cs.length, cl)] := by simp [spStep, hc]
      rw [e]
      refine ⟨⟨?_, chain_snoc g _ _ h2 ⟨h6, hc⟩, ?_, ?_, ?_⟩, by simp⟩
      · rw [spread_app, h1]
        simp [spreadM]
      · intro x hx
        cases g with
        | nil => simp at hx; subst hx; exact h3 (a, b, c) rfl
        | cons y g => exact h3 x hx
      · intro x hx
        simp at hx
        subst hx
        simp
      · intro x hx
        rcases List.mem_append.mp hx with hx | hx
        · have := h5 x hx
          simp
          omega
        · rw [List.mem_singleton.mp hx]
          simp
theorem sp_fold : ∀ (l cs : List Str) (f : List Sp3), SpInv f cs → (f = [] → cs = []) → SpInv ((l.zipIdx cs.length).foldl spStep f) (cs ++ l)
  | [], cs, f, h, _ => by simpa using h
  | x :: l, cs, f, h, hz => by
    obtain ⟨h1, h2⟩ := sp_step h hz x
    have := sp_fold l (cs ++ [x]) _ h1 fun e => absurd e h2
    simpa using this
theorem spans_inv (cs : List Str) : SpInv (spansM cs) cs := by
  have := sp_fold cs [] [] ⟨rfl, trivial, by simp, by simp, by simp⟩ fun _ => rfl
  simpa [spansM] using this
end K02

namespace K02
open PySem PySem.Spec PyProof.Rows L2 FL
local macro_rules | `(tactic| decreasing_trivial_pre_omega) => `(tactic| first | omega | (simp only [List.length_map, List.length_append, List.length_cons, List.length_nil, List.length_replicate, List.length_take, List.length_drop, mkS_length]; omega))
theorem spread_len (f : List Sp3) : ∀ g : List Sp3, (spreadM f).length ≤ (spreadM (f ++ g)).length := fun g => by
  rw [spread_app]
  simp
theorem spread_ (c : Cs) {f : List Sp3} (hl : (spreadM f).length ≤ 1000) (hb : ∀ x ∈ f, x.1 ≤ 1000 ∧ x.2.1 ≤ 1000) : f__law_spread c [(.f, .lst (f.map dSpan))] = .ret .f (.lst ((spreadM f).map .str)) [(.f, .lst (f.map dSpan))] := by
  obtain ⟨ρ', e, x2, x3, x4, rfl⟩ := loop_along (tg := tupG 3 (consG (putG 2) (consG (putG 3) (consG (putG 4) nilG)))) (body := T__law_spread_1 c) (enc := dSpan) (L := f)
    (R := fun pre ρ => ∃ x2 x3 x4, ρ = [.va (some 0) .f (.lst (f.map dSpan)), .va none (.o .f) (.lst ((spreadM pre).map .str)), x2, x3, x4]) (by
      rintro pre ⟨a, b, cl⟩ post ρ hL ⟨x2, x3, x4, rfl⟩
      have h1 := spread_len (pre ++ [(a, b, cl)]) post
      have h0 : pre ++ [(a, b, cl)] ++ post = f := by simp [hL]
      rw [h0, spread_app] at h1
      simp only [spreadM, List.append_nil, List.length_append, List.length_replicate] at h1
      obtain ⟨h2, h3⟩ := hb (a, b, cl) (by rw [hL]; simp)
      simp only at h2 h3
      have hk : ((b : Int) - (a : Int) + 1).toNat = b + 1 - a := by omega
      have hm := repD_at (xs := [D.str cl]) (i := (b : Int) - (a : Int) + 1)
      rw [if_pos ⟨by omega, by omega, by simp; omega⟩, hk] at hm
      have hf : (List.replicate (b + 1 - a) [D.str cl]).flatten = (List.replicate (b + 1 - a) cl).map .str := by simp
      rw [hf] at hm
      refine ⟨[.va (some 0) .f (.lst (f.map dSpan)), .va none (.o .f) (.lst ((spreadM pre).map .str)), .va none .f (.int (a : Nat)), .va none .f (.int (b : Nat)), .va none .f (.str cl)], by simp [dSpan], [.va (some 0) .f (.lst (f.map dSpan)), .va none (.o .f) (.lst ((spreadM (pre ++ [(a, b, cl)])).map .str)), .va none .f (.int (a : Nat)), .va none .f (.int (b : Nat)), .va none .f (.str cl)], .inl ?_, _, _, _, rfl⟩
      unfold T__law_spread_1
      simp -implicitDefEqProofs (disch := decreasing_trivial_pre_omega) [List.findIdx?_cons, List.getElem?_cons_zero, List.getElem?_cons_succ, List.getElem?_nil, dec_le, dec_le', dec_lt, dec_lt', dec_eq, dec_ne, -getElem?_pos, -getElem?_neg, hm, spread_app, spreadM, -List.map_replicate]) f [] [.va (some 0) .f (.lst (f.map dSpan)), .va none (.o .f) (.lst []), .no, .no, .no] rfl ⟨_, _, _, rfl⟩
  unfold f__law_spread T__law_spread T__law_spread_3 T__law_spread_2
  simp -implicitDefEqProofs (disch := decreasing_trivial_pre_omega) [List.findIdx?_cons, List.getElem?_cons_zero, List.getElem?_cons_succ, List.getElem?_nil, dec_le, dec_le', dec_lt, dec_lt', dec_eq, dec_ne, -getElem?_pos, -getElem?_neg] at e ⊢
  simp -implicitDefEqProofs (disch := decreasing_trivial_pre_omega) [List.findIdx?_cons, List.getElem?_cons_zero, List.getElem?_cons_succ, List.getElem?_nil, dec_le, dec_le', dec_lt, dec_lt', dec_eq, dec_ne, -getElem?_pos, -getElem?_neg, e]
theorem chain_pairs : ∀ {f : List Sp3}, chainM f → ∀ p ∈ f.zip (f.drop 1), okPair p.1 p.2
  | [], _, p, hp => by simp at hp
  | [x], _, p, hp => by simp at hp
  | x :: y :: r, h, p, hp => by
    simp only [List.drop_succ_cons, List.drop_zero, List.zip_cons_cons, List.mem_cons] at hp
    rcases hp with rfl | hp
    · exact h.1
    · exact chain_pairs h.2 p (by simpa using hp)
theorem zip_spans (f : List Sp3) : zipD (f.map dSpan) ((f.map dSpan).drop 1) = (f.zip (f.drop 1)).map fun p => .tup [dSpan p.1, dSpan p.2] := by
  rw [← List.map_drop, zipD_map]
theorem pairs_false {f : List Sp3} (hc : chainM f) (hl : f.length ≤ 1000) {a0 a1 a2 a3 a4 a5 a6 a7 a8 a9 a10 a11 a12 a13 a14 a15 a16 a17 a18 a19 a20 a21 a24 a25 : Sl} :
    lcL [22, 23] (tupG 2 (consG (putG 22) (consG (putG 23) nilG))) yesB (orE (use2 neDD (use2 addD (use2 ixDD (name 22) (konst (.int 1))) (konst (.int 1))) (use2 ixDD (name 23) (konst (.int 0)))) (use2 eqDD (use2 ixDD (name 22) (konst (.int 2))) (use2 ixDD (name 23) (konst (.int 2)))))
      ((f.zip (f.drop 1)).map fun p => .tup [dSpan p.1, dSpan p.2]) [] [a0, a1, a2, a3, a4, a5, a6, a7, a8, a9, a10, a11, a12, a13, a14, a15, a16, a17, a18, a19, a20, a21, .no, .no, a24, a25] = some ((f.zip (f.drop 1)).map (fun _ => .bl false), [a0, a1, a2, a3, a4, a5, a6, a7, a8, a9, a10, a11, a12, a13, a14, a15, a16, a17, a18, a19, a20, a21, .no, .no, a24, a25]) := by
  refine lcL_map (enc := fun p : Sp3 × Sp3 => .tup [dSpan p.1, dSpan p.2]) (h := fun _ => .bl false) (f.zip (f.drop 1)) (fun p hp => ?_) (by simp; omega)
  obtain ⟨h1, h2⟩ := chain_pairs hc p hp
  obtain ⟨⟨a, b, cl⟩, ⟨a', b', cl'⟩⟩ := p
  simp only at h1 h2
  subst h1
  simp -implicitDefEqProofs (disch := decreasing_trivial_pre_omega) [List.findIdx?_cons, List.getElem?_cons_zero, List.getElem?_cons_succ, List.getElem?_nil, dec_le, dec_le', dec_lt, dec_lt', dec_eq, dec_ne, -getElem?_pos, -getElem?_neg, dSpan, h2]
end K02

namespace K02
open PySem PySem.Spec PyProof.Rows L2 FL
local macro_rules | `(tactic| decreasing_trivial_pre_omega) => `(tactic| first | omega | (simp only [List.length_map, List.length_append, List.length_cons, List.length_nil, List.length_replicate, List.length_take, List.length_drop, mkS_length]; omega))
def toS (n : Nat) : Str := Str.ofString (toString (n : Int))
theorem num_len : ∀ n : Nat, n < 100 → (toS n).length ≤ 2 := by
  intro n h
  have : (List.range 100).all (fun n => decide ((toS n).length ≤ 2)) = true := by decide +kernel
  exact of_decide_eq_true (List.all_eq_true.mp this n (List.mem_range.mpr h))
theorem strD_nat {n : Nat} (h : n < 100) : strD [(.f, .int (n : Nat))] = some (.f, .str (toS n)) := by
  refine strD_int ?_
  have : ((n : Int).natAbs) = n := by omega
  rw [this]
  have h2 : n.log2 ≤ n := Nat.log2_le_self n
  omega
def spanTxt (x : Sp3) : Str := toS x.1 ++ "-" ++ toS x.2.1 ++ " " ++ x.2.2
def lineTxt (cs : List Str) : Str := if (spansM cs).isEmpty then "-" else Txt.join ", " ((spansM cs).map spanTxt)
theorem app_len (a b : Str) : (a ++ b).length = a.length + b.length := Str.length_append a b
theorem spanTxt_len {x : Sp3} (h1 : x.1 < 100) (h2 : x.2.1 < 100) (h3 : x.2.2.length ≤ 4) : (spanTxt x).length ≤ 10 := by
  unfold spanTxt
  have := num_len _ h1
  have := num_len _ h2
  have e1 : (Str.ofString "-").length = 1 := by decide
  have e2 : (Str.ofString " ").length = 1 := by decide
  rw [app_len, app_len, app_len, app_len, e1, e2]
  omega
theorem rowM_col {S : Str} {names : List Str} {md : Mode} (h : md.ok S names) (x : Nat) (late : Str) : (rowM md x late).1.length ≤ 4 := by
  unfold rowM
  cases e : md.rows.find? (rowHit x late) with
  | none =>
    have := h.pl
    simp only [List.mem_cons, List.not_mem_nil, or_false] at this
    rcases this with e | e | e <;> (show md.plain.length ≤ 4; rw [e]; decide)
  | some r =>
    have := (h.ro r (List.mem_of_find?_eq_some e)).co
    simp only [List.mem_cons, List.not_mem_nil, or_false] at this
    rcases this with e | e | e <;> (show r.colour.length ≤ 4; rw [e]; decide)
theorem walkM_col {t : Told} (ht : t.ok2) : ∀ (l : List Nat) {st : List Str}, StOk t st → ∀ x ∈ (walkM t st l).1, x.length ≤ 4
  | [], st, h, x, hx => by simp [walkM] at hx
  | y :: l, st, h, x, hx => by
    have hm := mode_ok ht (h.mem _ (topOf_mem h.ne))
    simp only [walkM, List.mem_cons] at hx
    rcases hx with rfl | hx
    · exact rowM_col hm _ _
    · exact walkM_col ht l (doneM_ok ht h (rowM_ok hm y (headS l))) x hx
/-- what is known of a text's lines -/
structure DueOk (t : Told) (due : List (List Str × List Str)) (n : Nat) : Prop where
  st : ∀ p ∈ due, StOk t p.1
  co : ∀ p ∈ due, ∀ x ∈ p.2, x.length ≤ 4
  ln : ∀ p ∈ due, p.2.length ≤ n
theorem textM_due {t : Told} (ht : t.ok2) {n : Nat} : ∀ (ls : List (List Nat)) {st : List Str}, StOk t st → (∀ l ∈ ls, l.length ≤ n) → DueOk t (textM t st ls).1 n
  | [], st, h, hl => ⟨by simp [textM], by simp [textM], by simp [textM]⟩
  | l :: ls, st, h, hl => by
    have ih := textM_due ht (n := n) ls (lineM_ok ht l h) fun l m => hl l (List.mem_cons_of_mem _ m)
    refine ⟨fun p hp => ?_, fun p hp => ?_, fun p hp => ?_⟩
    · simp only [textM, List.mem_cons] at hp
      rcases hp with rfl | hp
      · exact h
      · exact ih.st p hp
    · simp only [textM, List.mem_cons] at hp
      rcases hp with rfl | hp
      · exact walkM_col ht l h
      · exact ih.co p hp
    · simp only [textM, List.mem_cons] at hp
      rcases hp with rfl | hp
      · have := (walkM_ok ht l h).2
        have := hl l List.mem_cons_self
        show (walkM t st l).1.length ≤ n
        omega
      · exact ih.ln p hp
theorem span_bnd {cs : List Str} {n : Nat} (hl : cs.length ≤ n) {x : Sp3} (hx : x ∈ spansM cs) : x.1 < n ∧ x.2.1 < n := by
  have := (spans_inv cs).al x hx
  omega
theorem spread_mem : ∀ {f : List Sp3} {x : Sp3}, x ∈ f → x.1 ≤ x.2.1 → x.2.2 ∈ spreadM f
  | y :: f, x, hx, hle => by
    simp only [spreadM, List.mem_append]
    rcases List.mem_cons.mp hx with rfl | hx
    · left
      rw [List.mem_replicate]
      exact ⟨by omega, rfl⟩
    · exact .inr (spread_mem hx hle)
theorem span_col {cs : List Str} (hc : ∀ x ∈ cs, x.length ≤ 4) {x : Sp3} (hx : x ∈ spansM cs) : x.2.2.length ≤ 4 := by
  have h := spans_inv cs
  have := spread_mem hx (h.al x hx).1
  rw [h.sp] at this
  exact hc _ this
theorem spans_len (cs : List Str) : (spansM cs).length ≤ cs.length := by
  have := spFold_len cs.zipIdx []
  simpa [spansM] using this
theorem sum_le {α : Type} {f : α → Nat} {k : Nat} : ∀ {l : List α}, (∀ a ∈ l, f a ≤ k) → (l.map f).sum ≤ l.length * k
  | [], _ => by simp
  | a :: l, h => by
    have := sum_le (l := l) fun a m => h a (List.mem_cons_of_mem _ m)
    have := h a List.mem_cons_self
    simp [Nat.succ_mul]
    omega
theorem join_line {cs : List Str} (hc : ∀ x ∈ cs, x.length ≤ 4) (hl : cs.length ≤ 80) {m : M} (hm : sqD (m, .lst ((spansM cs).map fun x => D.str (spanTxt x))) = some ((spansM cs).map fun x => D.str (spanTxt x))) : joinD ", " (m, .lst ((spansM cs).map fun x => D.str (spanTxt x))) = some (.f, .str (Txt.join ", " ((spansM cs).map spanTxt))) := by
  refine joinD_ap hm strsD_map ?_
  have h1 : (((spansM cs).map spanTxt).map (·.length)).sum ≤ (spansM cs).length * 10 := by
    rw [List.map_map]
    refine sum_le fun x hx => ?_
    obtain ⟨h1, h2⟩ := span_bnd (n := 80) hl hx
    exact spanTxt_len (by omega) (by omega) (span_col hc hx)
  have h2 := spans_len cs
  have e : (Str.ofString ", ").length = 2 := by decide
  rw [e, List.length_map]
  omega
theorem rows_w {cs : List Str} (hc : ∀ x ∈ cs, x.length ≤ 4) (hl : cs.length ≤ 80) {b0 b1 b2 b3 b4 b5 : Sl} :
    lcL [6, 7, 8] (tupG 3 (consG (putG 6) (consG (putG 7) (consG (putG 8) nilG)))) yesB (frzD (use2 addD (use2 addD (use2 addD (use2 addD (useA strD (consA (name 6) nilA)) (konst (.str "-"))) (useA strD (consA (name 7) nilA))) (konst (.str " "))) (name 8)))
      ((spansM cs).map dSpan) [] [b0, b1, b2, b3, b4, b5, .no, .no, .no] = some ((spansM cs).map (fun x => .str (spanTxt x)), [b0, b1, b2, b3, b4, b5, .no, .no, .no]) := by
  refine lcL_map (spansM cs) (fun x hx => ?_) (by have := spans_len cs; omega)
  obtain ⟨h1, h2⟩ := span_bnd (n := 80) hl hx
  have h3 := span_col hc hx
  have e1 := strD_nat (n := x.1) (by omega)
  have e2 := strD_nat (n := x.2.1) (by omega)
  have g1 := num_len x.1 (by omega)
  have g2 := num_len x.2.1 (by omega)
  have e3 : (Str.ofString "-").length = 1 := by decide
  have e4 : (Str.ofString " ").length = 1 := by decide
  simp -implicitDefEqProofs (disch := decreasing_trivial_pre_omega) [List.findIdx?_cons, List.getElem?_cons_zero, List.getElem?_cons_succ, List.getElem?_nil, dec_le, dec_le', dec_lt, dec_lt', dec_eq, dec_ne, -getElem?_pos, -getElem?_neg, dSpan, e1, e2, app_len, e3, e4, spanTxt]
theorem rows_l {cs : List Str} (hc : ∀ x ∈ cs, x.length ≤ 4) (hl : cs.length ≤ 80) {a0 a1 a2 a3 a4 a5 a6 a7 a8 a9 a10 a11 a12 a13 a14 a15 a16 a17 a19 a20 a21 a22 a23 : Sl} :
    lcL [24, 18, 25] (tupG 3 (consG (putG 24) (consG (putG 18) (consG (putG 25) nilG)))) yesB (frzD (use2 addD (use2 addD (use2 addD (use2 addD (useA strD (consA (name 24) nilA)) (konst (.str "-"))) (useA strD (consA (name 18) nilA))) (konst (.str " "))) (name 25)))
      ((spansM cs).map dSpan) [] [a0, a1, a2, a3, a4, a5, a6, a7, a8, a9, a10, a11, a12, a13, a14, a15, a16, a17, .no, a19, a20, a21, a22, a23, .no, .no] = some ((spansM cs).map (fun x => .str (spanTxt x)), [a0, a1, a2, a3, a4, a5, a6, a7, a8, a9, a10, a11, a12, a13, a14, a15, a16, a17, .no, a19, a20, a21, a22, a23, .no, .no]) := by
  refine lcL_map (spansM cs) (fun x hx => ?_) (by have := spans_len cs; omega)
  obtain ⟨h1, h2⟩ := span_bnd (n := 80) hl hx
  have h3 := span_col hc hx
  have e1 := strD_nat (n := x.1) (by omega)
  have e2 := strD_nat (n := x.2.1) (by omega)
  have g1 := num_len x.1 (by omega)
  have g2 := num_len x.2.1 (by omega)
  have e3 : (Str.ofString "-").length = 1 := by decide
  have e4 : (Str.ofString " ").length = 1 := by decide
  simp -implicitDefEqProofs (disch := decreasing_trivial_pre_omega) [List.findIdx?_cons, List.getElem?_cons_zero, List.getElem?_cons_succ, List.getElem?_nil, dec_le, dec_le', dec_lt, dec_lt', dec_eq, dec_ne, -getElem?_pos, -getElem?_neg, dSpan, e1, e2, app_len, e3, e4, spanTxt]
end K02

namespace K02
open PySem PySem.Spec PyProof.Rows L2 FL
local macro_rules | `(tactic| decreasing_trivial_pre_omega) => `(tactic| first | omega | (simp only [List.length_map, List.length_append, List.length_cons, List.length_nil, List.length_replicate, List.length_take, List.length_drop, mkS_length]; omega))
theorem empty_eq {cs : List Str} : eqDs ((spansM cs).map fun x => D.str (spanTxt x)) [] = (spansM cs).isEmpty := by
  cases spansM cs <;> simp
theorem span_all {cs : List Str} {n : Nat} : ((spansM cs).map fun x => D.str (spanTxt x)).all (eqable n) = true := by simp
theorem line_turn (c : Cs) {t : Told} {p : List Str × List Str} (hc : ∀ x ∈ p.2, x.length ≤ 4) (hl : p.2.length ≤ 80) {b0 b1 b3 b5 : Sl} {ts : List Str} (ht : ts.length ≤ 1000) :
    T_write_spans_2 c [b0, b1, .va none (.o .f) (.lst (ts.map .str)), b3, .va none .f (.tup (p.2.map .str)), b5, .no, .no, .no] =
      .nx [b0, b1, .va none (.o .f) (.lst ((ts ++ [lineTxt p.2]).map .str)), b3, .va none .f (.tup (p.2.map .str)), .va none (.o .f) (.lst ((spansM p.2).map fun x => .str (spanTxt x))), .no, .no, .no] := by
  have e1 := spans_ c (cs := p.2) (by omega)
  have e2 := rows_w hc hl (b0 := b0) (b1 := b1) (b2 := .va none (.o .f) (.lst (ts.map .str))) (b3 := b3) (b4 := .va none .f (.tup (p.2.map .str))) (b5 := b5)
  have e3 := join_line hc hl (m := .o .f) rfl
  have e4 := empty_eq (cs := p.2)
  unfold T_write_spans_2 T_write_spans_1 lineTxt
  cases he : (spansM p.2).isEmpty with
  | true =>
    rw [he] at e4
    simp -implicitDefEqProofs (disch := decreasing_trivial_pre_omega) [List.findIdx?_cons, List.getElem?_cons_zero, List.getElem?_cons_succ, List.getElem?_nil, dec_le, dec_le', dec_lt, dec_lt', dec_eq, dec_ne, -getElem?_pos, -getElem?_neg, e1, e2, e4, -List.map_eq_nil_iff]
  | false =>
    rw [he] at e4
    simp -implicitDefEqProofs (disch := decreasing_trivial_pre_omega) [List.findIdx?_cons, List.getElem?_cons_zero, List.getElem?_cons_succ, List.getElem?_nil, dec_le, dec_le', dec_lt, dec_lt', dec_eq, dec_ne, -getElem?_pos, -getElem?_neg, e1, e2, e3, e4, -List.map_eq_nil_iff]
theorem lineTxt_len {cs : List Str} (hc : ∀ x ∈ cs, x.length ≤ 4) (hl : cs.length ≤ 80) : (lineTxt cs).length ≤ 1000 := by
  unfold lineTxt
  split
  · decide
  · have h1 : (((spansM cs).map spanTxt).map (·.length)).sum ≤ (spansM cs).length * 10 := by
      rw [List.map_map]
      refine sum_le fun x hx => ?_
      obtain ⟨h1, h2⟩ := span_bnd (n := 80) hl hx
      exact spanTxt_len (by omega) (by omega) (span_col hc hx)
    have h2 := spans_len cs
    have e : (Str.ofString ", ").length = 2 := by decide
    have h3 := StrLaws.join_length_le (Str.ofString ", ") ((spansM cs).map spanTxt)
    rw [e, List.length_map] at h3
    have h4 : Txt.join (Str.ofString ", ") ((spansM cs).map spanTxt) = Str.join (Str.ofString ", ") ((spansM cs).map spanTxt) := StrLaws.glued_eq_join _ _
    rw [h4]
    omega
theorem texts_join {due : List (List Str × List Str)} {t : Told} (h : DueOk t due 80) (hl : due.length ≤ 64) {m : M} (hm : sqD (m, .lst ((due.map fun p => lineTxt p.2).map D.str)) = some ((due.map fun p => lineTxt p.2).map D.str)) : joinD "\n" (m, .lst ((due.map fun p => lineTxt p.2).map D.str)) = some (.f, .str (Txt.join "\n" (due.map fun p => lineTxt p.2))) := by
  refine joinD_ap hm strsD_strs ?_
  have h1 : ((due.map fun p => lineTxt p.2).map (·.length)).sum ≤ due.length * 1000 := by
    rw [List.map_map]
    exact sum_le fun p hp => lineTxt_len (h.co p hp) (h.ln p hp)
  have e : (Str.ofString "\n").length = 1 := by decide
  rw [e, List.length_map]
  omega
theorem write_loop (c : Cs) {t : Told} {b0 b1 : Sl} : ∀ (due : List (List Str × List Str)) (ts : List Str) (b3 b4 b5 : Sl), DueOk t due 80 → ts.length + due.length ≤ 1000 →
    ∃ b3' b4' b5', loopS (tupG 2 (consG (putG 3) (consG (putG 4) nilG))) (T_write_spans_2 c) (due.map dDue) [b0, b1, .va none (.o .f) (.lst (ts.map .str)), b3, b4, b5, .no, .no, .no] =
      .nx [b0, b1, .va none (.o .f) (.lst ((ts ++ due.map fun p => lineTxt p.2).map .str)), b3', b4', b5', .no, .no, .no]
  | [], ts, b3, b4, b5, h, hl => ⟨b3, b4, b5, by simp⟩
  | p :: due, ts, b3, b4, b5, h, hl => by
    simp only [List.length_cons] at hl
    obtain ⟨y3, y4, y5, e⟩ := write_loop c (t := t) (b0 := b0) (b1 := b1) due (ts ++ [lineTxt p.2]) (.va none .f (dSt p.1)) (.va none .f (.tup (p.2.map .str))) (.va none (.o .f) (.lst ((spansM p.2).map fun x => .str (spanTxt x))))
      ⟨fun p m => h.st p (List.mem_cons_of_mem _ m), fun p m => h.co p (List.mem_cons_of_mem _ m), fun p m => h.ln p (List.mem_cons_of_mem _ m)⟩ (by simp; omega)
    have e1 := line_turn c (t := t) (p := p) (h.co p List.mem_cons_self) (h.ln p List.mem_cons_self) (b0 := b0) (b1 := b1) (b3 := .va none .f (dSt p.1)) (b5 := b5) (ts := ts) (by omega)
    refine ⟨y3, y4, y5, ?_⟩
    rw [List.map_cons, loopS_cons (ρ1 := [b0, b1, .va none (.o .f) (.lst (ts.map .str)), .va none .f (dSt p.1), .va none .f (.tup (p.2.map .str)), b5, .no, .no, .no]) (by simp [dDue]), e1]
    simpa using e
theorem write_spans_ (c : Cs) {t : Told} (ht : t.ok2) {ls : List (List Nat)} (h : ∀ l ∈ ls, inSigns t l = true) (hl : ls.length ≤ 64) :
    f_write_spans c [(.f, dBook c t), (.f, .lst (ls.map fun l => .str (mkS l)))] = .ret .f (.str (Txt.join "\n" ((textM t [t.first] ls).1.map fun p => lineTxt p.2))) [(.f, dBook c t), (.f, .lst (ls.map fun l => .str (mkS l)))] := by
  have e1 := colour_text_ c ht (.inl rfl) h hl
  have hd := textM_due ht ls (stFirst ht) fun l hl => in_len (h l hl)
  have hn := (textM_ok ht ls (stFirst ht)).2.1
  have e3 := texts_join hd (by omega) (m := .o .f) rfl
  obtain ⟨b3, b4, b5, e2⟩ := write_loop c (t := t) (b0 := .va (some 0) .f (dBook c t)) (b1 := .va (some 1) .f (.lst (ls.map fun l => .str (mkS l)))) (textM t [t.first] ls).1 [] .no .no .no hd (by simp; omega)
  unfold f_write_spans T_write_spans T_write_spans_4 T_write_spans_3
  simp -implicitDefEqProofs (disch := decreasing_trivial_pre_omega) [List.findIdx?_cons, List.getElem?_cons_zero, List.getElem?_cons_succ, List.getElem?_nil, dec_le, dec_le', dec_lt, dec_lt', dec_eq, dec_ne, -getElem?_pos, -getElem?_neg, e1] at e2 e3 ⊢
  simp -implicitDefEqProofs (disch := decreasing_trivial_pre_omega) [List.findIdx?_cons, List.getElem?_cons_zero, List.getElem?_cons_succ, List.getElem?_nil, dec_le, dec_le', dec_lt, dec_lt', dec_eq, dec_ne, -getElem?_pos, -getElem?_neg, e2, e3]
theorem law_line_turn (c : Cs) {t : Told} {p : List Str × List Str} (hc : ∀ x ∈ p.2, x.length ≤ 4) (hl : p.2.length ≤ 80) {a0 a1 a2 a3 a4 a5 a6 a7 a8 a9 a14 a15 a16 a17 a19 a20 a21 a22 a23 x10 x12 : Sl} {ts : List Str} (ht : ts.length ≤ 1000) :
    T_law_7 c [a0, a1, a2, a3, a4, a5, a6, a7, a8, a9, x10, .va none .f (.tup (p.2.map .str)), x12, .va none (.o .f) (.lst (ts.map .str)), a14, a15, a16, a17, .no, a19, a20, a21, a22, a23, .no, .no] = .nx [a0, a1, a2, a3, a4, a5, a6, a7, a8, a9, x10, .va none .f (.tup (p.2.map .str)), .va none (.o .f) (.lst ((spansM p.2).map fun x => .str (spanTxt x))), .va none (.o .f) (.lst ((ts ++ [lineTxt p.2]).map .str)), a14, a15, a16, a17, .no, a19, a20, a21, a22, a23, .no, .no] := by
  have e1 := spans_ c (cs := p.2) (by omega)
  have e2 := rows_l hc hl (a0 := a0) (a1 := a1) (a2 := a2) (a3 := a3) (a4 := a4) (a5 := a5) (a6 := a6) (a7 := a7) (a8 := a8) (a9 := a9) (a14 := a14) (a15 := a15) (a16 := a16) (a17 := a17) (a19 := a19) (a20 := a20) (a21 := a21) (a22 := a22) (a23 := a23) (a10 := x10) (a11 := .va none .f (.tup (p.2.map .str))) (a12 := x12) (a13 := .va none (.o .f) (.lst (ts.map .str)))
  have e3 := join_line hc hl (m := .o .f) rfl
  have e4 := empty_eq (cs := p.2)
  unfold T_law_7 T_law_6 lineTxt
  cases he : (spansM p.2).isEmpty with
  | true =>
    rw [he] at e4
    simp -implicitDefEqProofs (disch := decreasing_trivial_pre_omega) [List.findIdx?_cons, List.getElem?_cons_zero, List.getElem?_cons_succ, List.getElem?_nil, dec_le, dec_le', dec_lt, dec_lt', dec_eq, dec_ne, -getElem?_pos, -getElem?_neg, e1, e2, e4, -List.map_eq_nil_iff]
  | false =>
    rw [he] at e4
    simp -implicitDefEqProofs (disch := decreasing_trivial_pre_omega) [List.findIdx?_cons, List.getElem?_cons_zero, List.getElem?_cons_succ, List.getElem?_nil, dec_le, dec_le', dec_lt, dec_lt', dec_eq, dec_ne, -getElem?_pos, -getElem?_neg, e1, e2, e3, e4, -List.map_eq_nil_iff]
theorem law_texts (c : Cs) {t : Told} {a0 a1 a2 a3 a4 a5 a6 a7 a8 a9 a14 a15 a16 a17 a19 a20 a21 a22 a23 : Sl} : ∀ (due : List (List Str × List Str)) (ts : List Str) (x10 x11 x12 : Sl), DueOk t due 80 → ts.length + due.length ≤ 1000 →
    ∃ x10' x11' x12', loopS (tupG 2 (consG (putG 10) (consG (putG 11) nilG))) (T_law_7 c) (due.map dDue) [a0, a1, a2, a3, a4, a5, a6, a7, a8, a9, x10, x11, x12, .va none (.o .f) (.lst (ts.map .str)), a14, a15, a16, a17, .no, a19, a20, a21, a22, a23, .no, .no] = .nx [a0, a1, a2, a3, a4, a5, a6, a7, a8, a9, x10', x11', x12', .va none (.o .f) (.lst ((ts ++ due.map fun p => lineTxt p.2).map .str)), a14, a15, a16, a17, .no, a19, a20, a21, a22, a23, .no, .no]
  | [], ts, x10, x11, x12, h, hl => ⟨x10, x11, x12, by simp⟩
  | p :: due, ts, x10, x11, x12, h, hl => by
    simp only [List.length_cons] at hl
    obtain ⟨y10, y11, y12, e⟩ := law_texts c (t := t) (a0 := a0) (a1 := a1) (a2 := a2) (a3 := a3) (a4 := a4) (a5 := a5) (a6 := a6) (a7 := a7) (a8 := a8) (a9 := a9) (a14 := a14) (a15 := a15) (a16 := a16) (a17 := a17) (a19 := a19) (a20 := a20) (a21 := a21) (a22 := a22) (a23 := a23) due (ts ++ [lineTxt p.2]) (.va none .f (dSt p.1)) (.va none .f (.tup (p.2.map .str))) (.va none (.o .f) (.lst ((spansM p.2).map fun x => .str (spanTxt x))))
      ⟨fun p m => h.st p (List.mem_cons_of_mem _ m), fun p m => h.co p (List.mem_cons_of_mem _ m), fun p m => h.ln p (List.mem_cons_of_mem _ m)⟩ (by simp; omega)
    have e1 := law_line_turn c (t := t) (p := p) (h.co p List.mem_cons_self) (h.ln p List.mem_cons_self) (a0 := a0) (a1 := a1) (a2 := a2) (a3 := a3) (a4 := a4) (a5 := a5) (a6 := a6) (a7 := a7) (a8 := a8) (a9 := a9) (a14 := a14) (a15 := a15) (a16 := a16) (a17 := a17) (a19 := a19) (a20 := a20) (a21 := a21) (a22 := a22) (a23 := a23) (x10 := .va none .f (dSt p.1)) (x12 := x12) (ts := ts) (by omega)
    refine ⟨y10, y11, y12, ?_⟩
    rw [List.map_cons, loopS_cons (ρ1 := [a0, a1, a2, a3, a4, a5, a6, a7, a8, a9, .va none .f (dSt p.1), .va none .f (.tup (p.2.map .str)), x12, .va none (.o .f) (.lst (ts.map .str)), a14, a15, a16, a17, .no, a19, a20, a21, a22, a23, .no, .no]) (by simp [dDue]), e1]
    simpa using e
end K02

namespace K02
open PySem PySem.Spec PyProof.Rows L2 FL
local macro_rules | `(tactic| decreasing_trivial_pre_omega) => `(tactic| first | omega | (simp only [List.length_map, List.length_append, List.length_cons, List.length_nil, List.length_replicate, List.length_take, List.length_drop, mkS_length]; omega))
def paintsD : List (D × D) := [(.str "red", .str "r"), (.str "dim", .str "d")]
def paintOf (x : Str) : Str := if x = "red" then "r" else if x = "dim" then "d" else "?"
theorem paint_val (x : Str) : (valD paintsD (dK (.inr x))).getD (.str "?") = .str (paintOf x) := by
  show (valD paintsD (.str x)).getD (.str "?") = _
  unfold paintsD paintOf valD
  by_cases h : x = "red"
  · subst h
    simp
  · have h' : ¬ (Str.ofString "red") = x := fun e => h e.symm
    by_cases h2 : x = "dim"
    · subst h2
      simp
    · have h2' : ¬ (Str.ofString "dim") = x := fun e => h2 e.symm
      simp [h, h', h2, h2']
theorem paint_len (x : Str) : (paintOf x).length = 1 := by
  unfold paintOf
  split
  · decide
  · split <;> decide
def paintLine (cs : List Str) : Str := Txt.join "" (cs.map paintOf)
theorem is_paint_ (c : Cs) {x y : Str} (hx : f_is_name c [(.f, .str x)] = .ret .f (.bl true) [(.f, .str x)]) (hy : y.length = 1) : f_is_paint c [(.f, .str x), (.f, .str y)] = .ret .f (.bl true) [(.f, .str x), (.f, .str y)] := by
  unfold f_is_paint T_is_paint
  simp -implicitDefEqProofs (disch := decreasing_trivial_pre_omega) [List.findIdx?_cons, List.getElem?_cons_zero, List.getElem?_cons_succ, List.getElem?_nil, dec_le, dec_le', dec_lt, dec_lt', dec_eq, dec_ne, -getElem?_pos, -getElem?_neg, hx, isiO_ap, tyIs, hy]
theorem get_paint {x : Str} {m : M} (hm : dcD (m, .dct paintsD) = some paintsD) : ((dcD (m, .dct paintsD)).bind fun kvs => (kyO (.f, .str x)).bind fun k => some ((.f : M), (valD kvs (dK k)).getD (.str "?"))) = some (.f, .str (paintOf x)) := by
  rw [hm]
  show some ((.f : M), (valD paintsD (dK (.inr x))).getD (.str "?")) = _
  rw [paint_val]
theorem paint_join {cs : List Str} (hl : cs.length ≤ 1000) : joinD "" (.o .f, .lst (cs.map fun x => D.str (paintOf x))) = some (.f, .str (paintLine cs)) := by
  refine joinD_ap rfl strsD_map ?_
  rw [sum_const _ _ 1 (fun a ha => by obtain ⟨x, _, rfl⟩ := List.mem_map.mp ha; exact paint_len x), List.length_map]
  show _ + _ * 0 ≤ _
  omega
theorem paint_lc {cs : List Str} (hl : cs.length ≤ 1000) {b0 b1 b4 b5 b6 : Sl} {p : Option Nat} : lcL [3] (putG 3) yesB (frzD (getE (name 2) (nameFD 3) (konst (.str "?")))) (cs.map .str) [] [b0, b1, .va p .f (.dct paintsD), .no, b4, b5, b6] =
    some (cs.map (fun x => .str (paintOf x)), [b0, b1, .va p .f (.dct paintsD), .no, b4, b5, b6]) := by
  refine lcL_map cs (fun x _ => ?_) (by omega)
  have e := get_paint (x := x) (m := .f) rfl
  have hd : dcD (.f, .dct paintsD) = some paintsD := rfl
  simp -implicitDefEqProofs (disch := decreasing_trivial_pre_omega) [List.findIdx?_cons, List.getElem?_cons_zero, List.getElem?_cons_succ, List.getElem?_nil, dec_le, dec_le', dec_lt, dec_lt', dec_eq, dec_ne, -getElem?_pos, -getElem?_neg, hd] at e ⊢
  simp -implicitDefEqProofs (disch := decreasing_trivial_pre_omega) [List.findIdx?_cons, List.getElem?_cons_zero, List.getElem?_cons_succ, List.getElem?_nil, dec_le, dec_le', dec_lt, dec_lt', dec_eq, dec_ne, -getElem?_pos, -getElem?_neg, e]
theorem painted_ (c : Cs) {t : Told} (ht : t.ok2) {ls : List (List Nat)} (h : ∀ l ∈ ls, inSigns t l = true) (hl : ls.length ≤ 64) :
    f_painted c [(.f, dBook c t), (.f, .lst (ls.map fun l => .str (mkS l))), (.o .f, .dct paintsD)] = .ret .f (.lst ((textM t [t.first] ls).1.map fun p => .str (paintLine p.2))) [(.f, dBook c t), (.f, .lst (ls.map fun l => .str (mkS l))), (.f, .dct paintsD)] := by
  have e1 := colour_text_ c ht (.inl rfl) h hl
  have hd := textM_due ht ls (stFirst ht) fun l hl => in_len (h l hl)
  have hn := (textM_ok ht ls (stFirst ht)).2.1
  have p1 := is_paint_ c (x := "red") (y := "r") (is_name_col c (l := ["red"]) (by simp) (by decide)) (by decide)
  have p2 := is_paint_ c (x := "dim") (y := "d") (is_name_col c (l := ["dim"]) (by simp) (by decide)) (by decide)
  have e2 : lcL [3, 4] (tupG 2 (consG (putG 3) (consG (putG 4) nilG))) yesB (frzD (callE (f_is_paint c) (consA (name 3) (consA (name 4) nilA)))) [.tup [.str "red", .str "r"], .tup [.str "dim", .str "d"]] [] [.va (some 0) .f (dBook c t), .va (some 1) .f (.lst (ls.map fun l => .str (mkS l))), .va (some 2) .f (.dct paintsD), .no, .no, .no, .no] =
      some ([.bl true, .bl true], [.va (some 0) .f (dBook c t), .va (some 1) .f (.lst (ls.map fun l => .str (mkS l))), .va (some 2) .f (.dct paintsD), .no, .no, .no, .no]) := by
    rw [lcL_cons (o := some (.bl true)) (ρ' := [.va (some 0) .f (dBook c t), .va (some 1) .f (.lst (ls.map fun l => .str (mkS l))), .va (some 2) .f (.dct paintsD), .no, .no, .no, .no]) (by simp -implicitDefEqProofs (disch := decreasing_trivial_pre_omega) [List.findIdx?_cons, List.getElem?_cons_zero, List.getElem?_cons_succ, List.getElem?_nil, dec_le, dec_le', dec_lt, dec_lt', dec_eq, dec_ne, -getElem?_pos, -getElem?_neg, p1]) (by simp)]
    rw [lcL_cons (o := some (.bl true)) (ρ' := [.va (some 0) .f (dBook c t), .va (some 1) .f (.lst (ls.map fun l => .str (mkS l))), .va (some 2) .f (.dct paintsD), .no, .no, .no, .no]) (by simp -implicitDefEqProofs (disch := decreasing_trivial_pre_omega) [List.findIdx?_cons, List.getElem?_cons_zero, List.getElem?_cons_succ, List.getElem?_nil, dec_le, dec_le', dec_lt, dec_lt', dec_eq, dec_ne, -getElem?_pos, -getElem?_neg, p2]) (by simp)]
    rfl
  have e3 : lcL [5, 6] (tupG 2 (consG (putG 5) (consG (putG 6) nilG))) yesB (frzD (use1 (joinD "") (T_painted_2 c))) ((textM t [t.first] ls).1.map dDue) [] [.va (some 0) .f (dBook c t), .va (some 1) .f (.lst (ls.map fun l => .str (mkS l))), .va (some 2) .f (.dct paintsD), .no, .no, .no, .no] =
      some ((textM t [t.first] ls).1.map (fun p => .str (paintLine p.2)), [.va (some 0) .f (dBook c t), .va (some 1) .f (.lst (ls.map fun l => .str (mkS l))), .va (some 2) .f (.dct paintsD), .no, .no, .no, .no]) := by
    refine lcL_map _ (fun p hp => ?_) (by omega)
    have hlp := hd.ln p hp
    have e4 := paint_lc (cs := p.2) (by omega) (b0 := .va (some 0) .f (dBook c t)) (b1 := .va (some 1) .f (.lst (ls.map fun l => .str (mkS l)))) (b4 := .no) (b5 := .va none .f (dSt p.1)) (b6 := .va none .f (.tup (p.2.map .str))) (p := some 2)
    have e5 := paint_join (cs := p.2) (by omega)
    unfold T_painted_2
    simp -implicitDefEqProofs (disch := decreasing_trivial_pre_omega) [List.findIdx?_cons, List.getElem?_cons_zero, List.getElem?_cons_succ, List.getElem?_nil, dec_le, dec_le', dec_lt, dec_lt', dec_eq, dec_ne, -getElem?_pos, -getElem?_neg, dDue] at e4 ⊢
    simp -implicitDefEqProofs (disch := decreasing_trivial_pre_omega) [List.findIdx?_cons, List.getElem?_cons_zero, List.getElem?_cons_succ, List.getElem?_nil, dec_le, dec_le', dec_lt, dec_lt', dec_eq, dec_ne, -getElem?_pos, -getElem?_neg, e4, e5]
  have hit : paintsD.map (fun kv => D.tup [kv.1, kv.2]) = [.tup [.str "red", .str "r"], .tup [.str "dim", .str "d"]] := rfl
  unfold f_painted T_painted T_painted_4 T_painted_3 T_painted_1
  simp -implicitDefEqProofs (disch := decreasing_trivial_pre_omega) [List.findIdx?_cons, List.getElem?_cons_zero, List.getElem?_cons_succ, List.getElem?_nil, dec_le, dec_le', dec_lt, dec_lt', dec_eq, dec_ne, -getElem?_pos, -getElem?_neg, isiO_ap, tyIs, hit, e2, e1] at e3 ⊢
  simp -implicitDefEqProofs (disch := decreasing_trivial_pre_omega) [List.findIdx?_cons, List.getElem?_cons_zero, List.getElem?_cons_succ, List.getElem?_nil, dec_le, dec_le', dec_lt, dec_lt', dec_eq, dec_ne, -getElem?_pos, -getElem?_neg, e3]
theorem law_paint_lc {cs : List Str} (hl : cs.length ≤ 1000) {a0 a1 a2 a3 a4 a5 a6 a7 a8 a9 a12 a13 a15 a16 a17 a18 a19 a20 a21 a22 a23 a24 x10 : Sl} : lcL [25] (putG 25) yesB (frzD (getE (name 14) (nameFD 25) (konst (.str "?")))) (cs.map .str) [] [a0, a1, a2, a3, a4, a5, a6, a7, a8, a9, x10, .va none .f (.tup (cs.map .str)), a12, a13, .va none .f (.dct paintsD), a15, a16, a17, a18, a19, a20, a21, a22, a23, a24, .no] =
    some (cs.map (fun x => .str (paintOf x)), [a0, a1, a2, a3, a4, a5, a6, a7, a8, a9, x10, .va none .f (.tup (cs.map .str)), a12, a13, .va none .f (.dct paintsD), a15, a16, a17, a18, a19, a20, a21, a22, a23, a24, .no]) := by
  refine lcL_map cs (fun x _ => ?_) (by omega)
  have e := get_paint (x := x) (m := .f) rfl
  have hd : dcD (.f, .dct paintsD) = some paintsD := rfl
  simp -implicitDefEqProofs (disch := decreasing_trivial_pre_omega) [List.findIdx?_cons, List.getElem?_cons_zero, List.getElem?_cons_succ, List.getElem?_nil, dec_le, dec_le', dec_lt, dec_lt', dec_eq, dec_ne, -getElem?_pos, -getElem?_neg, hd] at e ⊢
  simp -implicitDefEqProofs (disch := decreasing_trivial_pre_omega) [List.findIdx?_cons, List.getElem?_cons_zero, List.getElem?_cons_succ, List.getElem?_nil, dec_le, dec_le', dec_lt, dec_lt', dec_eq, dec_ne, -getElem?_pos, -getElem?_neg, e]
theorem law_paints (c : Cs) {due : List (List Str × List Str)} {t : Told} (hd : DueOk t due 80) (hn : due.length ≤ 1000) {a0 a1 a2 a3 a4 a5 a6 a7 a8 a9 a12 a13 a15 a16 a17 a18 a19 a20 a21 a22 a23 a24 : Sl} : lcL [10, 11] (tupG 2 (consG (putG 10) (consG (putG 11) nilG))) yesB (frzD (use1 (joinD "") (T_law_8 c))) (due.map dDue) [] [a0, a1, a2, a3, a4, a5, a6, a7, a8, a9, .no, .no, a12, a13, .va none .f (.dct paintsD), a15, a16, a17, a18, a19, a20, a21, a22, a23, a24, .no] =
      some (due.map (fun p => .str (paintLine p.2)), [a0, a1, a2, a3, a4, a5, a6, a7, a8, a9, .no, .no, a12, a13, .va none .f (.dct paintsD), a15, a16, a17, a18, a19, a20, a21, a22, a23, a24, .no]) := by
  refine lcL_map _ (fun p hp => ?_) (by omega)
  have hlp := hd.ln p hp
  have e4 := law_paint_lc (cs := p.2) (by omega) (a0 := a0) (a1 := a1) (a2 := a2) (a3 := a3) (a4 := a4) (a5 := a5) (a6 := a6) (a7 := a7) (a8 := a8) (a9 := a9) (a12 := a12) (a13 := a13) (a15 := a15) (a16 := a16) (a17 := a17) (a18 := a18) (a19 := a19) (a20 := a20) (a21 := a21) (a22 := a22) (a23 := a23) (a24 := a24) (x10 := .va none .f (dSt p.1))
  have e5 := paint_join (cs := p.2) (by omega)
  unfold T_law_8
  simp -implicitDefEqProofs (disch := decreasing_trivial_pre_omega) [List.findIdx?_cons, List.getElem?_cons_zero, List.getElem?_cons_succ, List.getElem?_nil, dec_le, dec_le', dec_lt, dec_lt', dec_eq, dec_ne, -getElem?_pos, -getElem?_neg, dDue] at e4 ⊢
  simp -implicitDefEqProofs (disch := decreasing_trivial_pre_omega) [List.findIdx?_cons, List.getElem?_cons_zero, List.getElem?_cons_succ, List.getElem?_nil, dec_le, dec_le', dec_lt, dec_lt', dec_eq, dec_ne, -getElem?_pos, -getElem?_neg, e4, e5]
end K02

namespace K02
open PySem PySem.Spec PyProof.Rows L2 FL
local macro_rules | `(tactic| decreasing_trivial_pre_omega) => `(tactic| first | omega | (simp only [List.length_map, List.length_append, List.length_cons, List.length_nil, List.length_replicate, List.length_take, List.length_drop, mkS_length]; omega))
theorem law_book_ (c : Cs) {t : Told} (ht : t.ok2) : f__law_book c [(.f, dTold t)] = .ret .f (dBook c t) [(.f, dTold t)] := by
  have e := init_ c ht
  have h1 := dct_get t
  have h2 := dct_get2 t
  have h3 := dct_get3 t
  have h4 := dct_get4 t
  unfold f__law_book T__law_book
  simp -implicitDefEqProofs (disch := decreasing_trivial_pre_omega) [List.findIdx?_cons, List.getElem?_cons_zero, List.getElem?_cons_succ, List.getElem?_nil, dec_le, dec_le', dec_lt, dec_lt', dec_eq, dec_ne, -getElem?_pos, -getElem?_neg, dTold, h1, h2, h3, h4, e, dBook, bookFs]
theorem is_row_non (c : Cs) : f_is_row c [(.f, .non)] = .ret .f (.bl false) [(.f, .non)] := by
  unfold f_is_row T_is_row
  simp -implicitDefEqProofs (disch := decreasing_trivial_pre_omega) [List.findIdx?_cons, List.getElem?_cons_zero, List.getElem?_cons_succ, List.getElem?_nil, dec_le, dec_le', dec_lt, dec_lt', dec_eq, dec_ne, -getElem?_pos, -getElem?_neg, isiO_ap, tyIs]
theorem check_lines_non (c : Cs) (t : Told) : f_check_lines c [(.f, dBook c t), (.f, .non)] = .exc c.BadText [("number", .non)] [(.f, dBook c t), (.f, .non)] := by
  unfold f_check_lines T_check_lines T_check_lines_2
  simp -implicitDefEqProofs (disch := decreasing_trivial_pre_omega) [List.findIdx?_cons, List.getElem?_cons_zero, List.getElem?_cons_succ, List.getElem?_nil, dec_le, dec_le', dec_lt, dec_lt', dec_eq, dec_ne, -getElem?_pos, -getElem?_neg, is_row_non, fns_BadText]
theorem colour_text_ex (c : Cs) (t : Told) {bad pl : D} (h : f_check_lines c [(.f, dBook c t), (.f, bad)] = .exc c.BadText [("number", pl)] [(.f, dBook c t), (.f, bad)]) :
    f_colour_text c [(.f, dBook c t), (.f, bad)] = .exc c.BadText [("number", pl)] [(.f, dBook c t), (.f, bad)] := by
  have hb := check_book_ c t
  unfold f_colour_text T_colour_text T_colour_text_6 T_colour_text_5
  simp -implicitDefEqProofs (disch := decreasing_trivial_pre_omega) [List.findIdx?_cons, List.getElem?_cons_zero, List.getElem?_cons_succ, List.getElem?_nil, dec_le, dec_le', dec_lt, dec_lt', dec_eq, dec_ne, -getElem?_pos, -getElem?_neg, hb, h]
/-- what is refused, and how -/
def Bad (c : Cs) (t : Told) (b pl : D) : Prop := f_check_lines c [(.f, dBook c t), (.f, b)] = .exc c.BadText [("number", pl)] [(.f, dBook c t), (.f, b)] ∧ (pl = .non ∨ ∃ i : Int, pl = .int i)
theorem bad_lines (c : Cs) {t : Told} {ls : List (List Nat)} (h : ∀ l ∈ ls, inSigns t l = true) (hl : ls.length ≤ 63) {o : Option (List Nat)} (ho : okLn t o = false) (hol : ∀ l, o = some l → l.length ≤ 1000) :
    Bad c t (.lst (ls.map (fun l => .str (mkS l)) ++ [dLn o])) (.int (ls.length : Nat)) := by
  have e := check_lines_ c t (.inl rfl) (os := ls.map some ++ [o]) (fun o' ho' l e => by
    rcases List.mem_append.mp ho' with h' | h'
    · obtain ⟨l', hl', rfl⟩ := List.mem_map.mp h'
      cases e
      have := in_len (h _ hl')
      omega
    · rw [List.mem_singleton.mp h'] at e
      exact hol l e) (by simp; omega)
  have hf : (ls.map some ++ [o]).findIdx? (fun o => !okLn t o) = some ls.length := by
    rw [List.findIdx?_append, lines_good h]
    simp [ho]
  rw [hf, if_neg (by simp; omega), List.map_append, dLn_map] at e
  exact ⟨e, .inr ⟨_, rfl⟩⟩
theorem bad_many (c : Cs) (t : Told) : Bad c t (.lst (List.replicate 65 (.str ""))) .non := by
  have e := check_lines_ c t (.inl rfl) (os := List.replicate 65 (some [])) (fun o' ho' l e => by
    rw [(List.mem_replicate.mp ho').2] at e
    cases e
    simp) (by simp)
  have hd : (List.replicate 65 (some ([] : List Nat))).map dLn = List.replicate 65 (.str "") := by
    rw [List.map_replicate]
    rfl
  rw [if_pos (by simp), hd] at e
  exact ⟨e, .inl rfl⟩
theorem bad_long (c : Cs) {t : Told} {l : List Nat} (hl : l.length = 81) : Bad c t (.lst [.str (mkS l)]) (.int 0) := by
  have e := check_lines_ c t (.inl rfl) (os := [some l]) (fun o' ho' l' e => by
    rw [List.mem_singleton.mp ho'] at e
    cases e
    omega) (by simp)
  have hg : inSigns t l = false := by
    unfold inSigns
    rw [decide_eq_false (by omega)]
    rfl
  have hf : [some l].findIdx? (fun o => !okLn t o) = some 0 := by
    simp [okLn, hg]
  rw [hf, if_neg (by simp)] at e
  exact ⟨e, .inr ⟨_, rfl⟩⟩
theorem bad_excl (c : Cs) {t : Told} (hS : hasS t.S 33 = false) : okLn t (some [33]) = false := by
  simp [okLn, inSigns, hS]
theorem law_try (c : Cs) (hd : Dist c) {t : Told} {b pl : D} (hb : Bad c t b pl) {a0 a1 a2 a3 a5 a6 a7 a8 a9 a10 a11 a12 a13 a14 a15 a16 a17 a18 a22 a23 a24 a25 : Sl} : ∃ ρ', (tryS 21 (ex_BadText c) (T_law_10 c) (fun a d C => (retS (use2 eqDD (excE 21 a d C (okX_number c) "number") (name 20))))) [a0, a1, a2, a3, .va none .f (dBook c t), a5, a6, a7, a8, a9, a10, a11, a12, a13, a14, a15, a16, a17, a18, .va none .f b, .va none .f pl, .no, a22, a23, a24, a25] = .rt .f (.bl true) ρ' := by
  obtain ⟨h1, h2⟩ := hb
  have e := colour_text_ex c t h1
  have e1 : T_law_10 c [a0, a1, a2, a3, .va none .f (dBook c t), a5, a6, a7, a8, a9, a10, a11, a12, a13, a14, a15, a16, a17, a18, .va none .f b, .va none .f pl, .no, a22, a23, a24, a25] = .ex c.BadText [("number", pl)] [a0, a1, a2, a3, .va none .f (dBook c t), a5, a6, a7, a8, a9, a10, a11, a12, a13, a14, a15, a16, a17, a18, .va none .f b, .va none .f pl, .no, a22, a23, a24, a25] := by
    unfold T_law_10
    simp -implicitDefEqProofs (disch := decreasing_trivial_pre_omega) [List.findIdx?_cons, List.getElem?_cons_zero, List.getElem?_cons_succ, List.getElem?_nil, dec_le, dec_le', dec_lt, dec_lt', dec_eq, dec_ne, -getElem?_pos, -getElem?_neg, e]
  have hx : ex_BadText c c.BadText = some true := by
    have hne : (c.BadText == c.BadBook) = false := by
      simp only [beq_eq_false_iff_ne]
      intro he
      unfold Dist at hd
      simp [he] at hd
    unfold ex_BadText
    simp [hne]
  have hq : eqD pl pl = true := by rcases h2 with rfl | ⟨i, rfl⟩ <;> simp
  have hf : ∀ n, eqable n pl = true := by rcases h2 with rfl | ⟨i, rfl⟩ <;> simp
  refine ⟨[a0, a1, a2, a3, .va none .f (dBook c t), a5, a6, a7, a8, a9, a10, a11, a12, a13, a14, a15, a16, a17, a18, .va none .f b, .va none .f pl, .no, a22, a23, a24, a25], ?_⟩
  unfold tryS
  rw [e1]
  simp only [hx]
  rw [if_pos (by simp)]
  refine hndS_eq fun a d => ?_
  unfold hndR
  simp -implicitDefEqProofs (disch := decreasing_trivial_pre_omega) [List.findIdx?_cons, List.getElem?_cons_zero, List.getElem?_cons_succ, List.getElem?_nil, dec_le, dec_le', dec_lt, dec_lt', dec_eq, dec_ne, -getElem?_pos, -getElem?_neg, okX_number, hq, hf, forgetO]
end K02

namespace K02
open PySem PySem.Spec PyProof.Rows L2 FL
local macro_rules | `(tactic| decreasing_trivial_pre_omega) => `(tactic| first | omega | (simp only [List.length_map, List.length_append, List.length_cons, List.length_nil, List.length_replicate, List.length_take, List.length_drop, mkS_length]; omega))
def reps65 : List D := List.replicate 65 (.str "")
def long81 (x : Nat) : List Nat := List.replicate 81 x
def Good (x : SO) : Prop := ∃ ρ', x = SO.rt .f (.bl true) ρ'
theorem law_11 (c : Cs) (hd : Dist c) (ns : List Int) (hb : ns.length < 1000000) {k : Int} {t : Told} (ht : t.ok2) (hS : hasS t.S 33 = false) {ls : List (List Nat)} (h : ∀ l ∈ ls, inSigns t l = true) (hl : ls.length ≤ 63) {a0 a3 a6 a7 a8 a9 a10 a11 a12 a13 a14 a15 a16 a17 a18 a22 a23 a24 a25 x19 x20 : Sl} : Good (T_law_11 c [a0, .va none (drw ns k).1 (drw ns k).2, .va none .f (.str t.S), a3, .va none .f (dBook c t), .va none .f (.lst (ls.map fun l => .str (mkS l))), a6, a7, a8, a9, a10, a11, a12, a13, a14, a15, a16, a17, a18, x19, x20, .no, a22, a23, a24, a25]) := by
  obtain ⟨x0, hx0⟩ : ∃ x0, atI t.S.cps.toList 0 = some x0 := by
    have := ht.s.l0
    cases q : t.S.cps.toList with
    | nil =>
      have h0 : t.S.cps.toList.length = 0 := by rw [q]; rfl
      simp at h0
      rw [h0] at this
      simp at this
    | cons y r => exact ⟨y, atI_0⟩
  have hz : t.S.length ≤ 16777216 := by
    have := ht.s.l6
    show t.S.cps.size ≤ _
    omega
  have hm1 := repD_at (xs := [D.str ""]) (i := 65)
  rw [if_pos ⟨by decide, by decide, by decide⟩] at hm1
  have hr : (List.replicate (65 : Int).toNat [D.str ""]).flatten = reps65 := by
    rw [show (65 : Int).toNat = 65 from rfl]
    unfold reps65
    rw [List.flatten_replicate_singleton]
  rw [hr] at hm1
  have hm2 := mulS_at (x := mkS [x0]) (i := 81) (by decide) (by decide) (by simp)
  have hm3 : mulS (mkS [x0]) 81 = mkS (long81 x0) := by
    unfold mulS
    rw [mkS_toList, show (81 : Int).toNat = 81 from rfl]
    rw [List.flatten_replicate_singleton]
    rfl
  rw [hm3] at hm2
  obtain ⟨bd, hbd, ep⟩ := pick_ c ns hb k [.tup [.non, .non], .tup [.lst (ls.map (fun l => .str (mkS l)) ++ [.str "!"]), .int (ls.length : Nat)], .tup [.lst (ls.map (fun l => .str (mkS l)) ++ [.non]), .int (ls.length : Nat)], .tup [.lst reps65, .non], .tup [.lst [.str (mkS (long81 x0))], .int 0]] (by simp) .f (.inl rfl)
  have hex : ∃ b pl, bd = .tup [b, pl] ∧ Bad c t b pl := by
    simp only [List.mem_cons, List.not_mem_nil, or_false] at hbd
    rcases hbd with rfl | rfl | rfl | rfl | rfl
    · exact ⟨_, _, rfl, check_lines_non c t, .inl rfl⟩
    · exact ⟨_, _, rfl, bad_lines c h hl (o := some [33]) (bad_excl c hS) (by simp)⟩
    · exact ⟨_, _, rfl, bad_lines c h hl (o := none) rfl (by simp)⟩
    · exact ⟨_, _, rfl, bad_many c t⟩
    · exact ⟨_, _, rfl, bad_long c (by unfold long81; simp)⟩
  obtain ⟨b, pl, rfl, hbad⟩ := hex
  obtain ⟨ρ', e⟩ := law_try c hd hbad (a0 := a0) (a3 := a3) (a6 := a6) (a7 := a7) (a8 := a8) (a9 := a9) (a10 := a10) (a11 := a11) (a12 := a12) (a13 := a13) (a14 := a14) (a15 := a15) (a16 := a16) (a17 := a17) (a18 := a18) (a22 := a22) (a23 := a23) (a24 := a24) (a25 := a25) (a1 := .va none (drw ns (k + 1)).1 (drw ns (k + 1)).2) (a2 := .va none .f (.str t.S)) (a5 := .va none .f (.lst (ls.map fun l => .str (mkS l))))
  refine ⟨ρ', ?_⟩
  unfold T_law_11
  unfold drw at ep e ⊢
  simp -implicitDefEqProofs (disch := decreasing_trivial_pre_omega) [List.findIdx?_cons, List.getElem?_cons_zero, List.getElem?_cons_succ, List.getElem?_nil, dec_le, dec_le', dec_lt, dec_lt', dec_eq, dec_ne, -getElem?_pos, -getElem?_neg, hx0, hz, hm1, hm2, ep]
  exact e
theorem due_plain {due : List (List Str × List Str)} : plainD (.lst (due.map dDue)) = true := by
  simp [dDue, dSt]
theorem due_fit {due : List (List Str × List Str)} : eqable 60 (.lst (due.map dDue)) = true := by
  simp [dDue, dSt]
theorem st_plain {st : List Str} : plainD (dSt st) = true := by simp [dSt]
theorem st_fit {st : List Str} : eqable 60 (dSt st) = true := by simp [dSt]
theorem textM_app (t : Told) : ∀ (a b : List (List Nat)) (st : List Str), textM t st (a ++ b) = ((textM t st a).1 ++ (textM t (textM t st a).2 b).1, (textM t (textM t st a).2 b).2)
  | [], b, st => rfl
  | l :: a, b, st => by
    rw [List.cons_append]
    simp only [textM]
    rw [textM_app t a b]
    rfl
theorem law_12 (c : Cs) (hd : Dist c) (ns : List Int) (hb : ns.length < 1000000) {k : Int} {t : Told} (ht : t.ok2) (hS : hasS t.S 33 = false) {ls : List (List Nat)} (h : ∀ l ∈ ls, inSigns t l = true) (hl : ls.length ≤ 63) {n : Nat} {a0 a8 a9 a10 a11 a12 a13 a14 a15 a19 a20 a22 a23 a24 a25 : Sl} : Good (T_law_12 c [a0, .va none (drw ns k).1 (drw ns k).2, .va none .f (.str t.S), .va none .f (dTold t), .va none .f (dBook c t), .va none .f (.lst (ls.map fun l => .str (mkS l))), .va none .f (.lst ((textM t [t.first] ls).1.map dDue)), .va none .f (dSt (textM t [t.first] ls).2), a8, a9, a10, a11, a12, a13, a14, a15, .va none .f (.lst ((textM t [t.first] (ls.take n)).1.map dDue)), .va none .f (.lst ((textM t (textM t [t.first] (ls.take n)).2 (ls.drop n)).1.map dDue)), .va none .f (dSt (textM t (textM t [t.first] (ls.take n)).2 (ls.drop n)).2), a19, a20, .no, a22, a23, a24, a25]) := by
  have e0 := textM_app t (ls.take n) (ls.drop n) [t.first]
  rw [List.take_append_drop] at e0
  have e1 : (textM t [t.first] (ls.take n)).1.map dDue ++ (textM t (textM t [t.first] (ls.take n)).2 (ls.drop n)).1.map dDue = (textM t [t.first] ls).1.map dDue := by
    rw [e0, List.map_append]
  have e2 : (textM t (textM t [t.first] (ls.take n)).2 (ls.drop n)).2 = (textM t [t.first] ls).2 := by rw [e0]
  have hle : ((textM t [t.first] (ls.take n)).1.map dDue).length + ((textM t (textM t [t.first] (ls.take n)).2 (ls.drop n)).1.map dDue).length ≤ 16777216 := by
    have := congrArg List.length e1
    rw [List.length_append] at this
    rw [this, List.length_map, (textM_ok ht ls (stFirst ht)).2.1]
    omega
  have e3 := addD_ff (xs := (textM t [t.first] (ls.take n)).1.map dDue) (ys := (textM t (textM t [t.first] (ls.take n)).2 (ls.drop n)).1.map dDue)
  rw [fit_ok hle, if_pos rfl, e1] at e3
  have e4 := ne_same (a := (.o .f, .lst ((textM t [t.first] ls).1.map dDue))) (b := (.f, .lst ((textM t [t.first] ls).1.map dDue))) rfl rfl due_plain due_fit
  have e5 := ne_same (a := (.f, dSt (textM t [t.first] ls).2)) (b := (.f, dSt (textM t [t.first] ls).2)) rfl rfl st_plain st_fit
  obtain ⟨ρ', e⟩ := law_11 c hd ns hb (k := k) ht hS h hl (a0 := a0) (a3 := .va none .f (dTold t)) (a6 := .va none .f (.lst ((textM t [t.first] ls).1.map dDue))) (a7 := .va none .f (dSt (textM t [t.first] ls).2)) (a8 := a8) (a9 := a9) (a10 := a10) (a11 := a11) (a12 := a12) (a13 := a13) (a14 := a14) (a15 := a15) (a16 := .va none .f (.lst ((textM t [t.first] (ls.take n)).1.map dDue))) (a17 := .va none .f (.lst ((textM t (textM t [t.first] (ls.take n)).2 (ls.drop n)).1.map dDue))) (a18 := .va none .f (dSt (textM t [t.first] ls).2)) (a22 := a22) (a23 := a23) (a24 := a24) (a25 := a25) (x19 := a19) (x20 := a20)
  refine ⟨ρ', ?_⟩
  unfold T_law_12
  rw [e2]
  simp -implicitDefEqProofs (disch := decreasing_trivial_pre_omega) [List.findIdx?_cons, List.getElem?_cons_zero, List.getElem?_cons_succ, List.getElem?_nil, dec_le, dec_le', dec_lt, dec_lt', dec_eq, dec_ne, -getElem?_pos, -getElem?_neg, e3, e4, e5, -addD_ff, -neDD_ap]
  exact e
end K02

namespace K02
open PySem PySem.Spec PyProof.Rows L2 FL
local macro_rules | `(tactic| decreasing_trivial_pre_omega) => `(tactic| first | omega | (simp only [List.length_map, List.length_append, List.length_cons, List.length_nil, List.length_replicate, List.length_take, List.length_drop, mkS_length]; omega))
theorem textM_ok2 {t : Told} (ht : t.ok2) {ls : List (List Nat)} (h : ∀ l ∈ ls, inSigns t l = true) (n : Nat) : (∀ l ∈ ls.take n, l.length ≤ 1000) ∧ (∀ l ∈ ls.drop n, l.length ≤ 1000) := by
  refine ⟨fun l hl => ?_, fun l hl => ?_⟩
  · have := in_len (h l (List.mem_of_mem_take hl))
    omega
  · have := in_len (h l (List.mem_of_mem_drop hl))
    omega
theorem law_15 (c : Cs) (hd : Dist c) (ns : List Int) (hb : ns.length < 1000000) {k : Int} {t : Told} (ht : t.ok2) (hS : hasS t.S 33 = false) {ls : List (List Nat)} (h : ∀ l ∈ ls, inSigns t l = true) (hl : ls.length ≤ 63) {a0 a8 a9 a10 a11 a12 a13 a14 a15 a16 a17 a18 a19 a20 a22 a23 a24 a25 : Sl} : Good (T_law_15 c [a0, .va none (drw ns k).1 (drw ns k).2, .va none .f (.str t.S), .va none .f (dTold t), .va none .f (dBook c t), .va none .f (.lst (ls.map fun l => .str (mkS l))), .va none .f (.lst ((textM t [t.first] ls).1.map dDue)), .va none .f (dSt (textM t [t.first] ls).2), a8, a9, a10, a11, a12, a13, a14, a15, a16, a17, a18, a19, a20, .no, a22, a23, a24, a25]) := by
  obtain ⟨z, h0, h1, et⟩ := take_ c ns hb k ((ls.length : Int) + 1) (by omega)
  obtain ⟨n, hn⟩ : ∃ n : Nat, z = (n : Int) := ⟨z.toNat, by omega⟩
  subst hn
  obtain ⟨g1, g2⟩ := textM_ok2 ht h n
  have hlt := textM_ok ht (ls.take n) (stFirst ht)
  have e1 := law_text_ c ht (stFirst ht) (ls := ls.take n) g1 (by simp; omega)
  have e2 := law_text_ c ht hlt.1 (ls := ls.drop n) g2 (by simp; omega)
  have c1 : cutD (ls.map fun l => D.str (mkS l)) none (some (n : Int)) = (ls.take n).map fun l => D.str (mkS l) := by
    rw [cutD_take (by omega), List.map_take]
    rfl
  have c2 : cutD (ls.map fun l => D.str (mkS l)) (some (n : Int)) none = (ls.drop n).map fun l => D.str (mkS l) := by
    rw [cutD_drop (by omega), List.map_drop]
    rfl
  have hf := dct_get4 t
  obtain ⟨ρ', e⟩ := law_12 c hd ns hb (k := k + 1) ht hS h hl (n := n) (a0 := a0) (a8 := a8) (a9 := a9) (a10 := .va none .f (dSt (textM t [t.first] (ls.take n)).2)) (a11 := a11) (a12 := a12) (a13 := a13) (a14 := a14) (a15 := .va none .f (.int (n : Int))) (a19 := a19) (a20 := a20) (a22 := a22) (a23 := a23) (a24 := a24) (a25 := a25)
  refine ⟨ρ', ?_⟩
  unfold T_law_15 T_law_14 T_law_13
  unfold drw at et e ⊢
  simp -implicitDefEqProofs (disch := decreasing_trivial_pre_omega) [List.findIdx?_cons, List.getElem?_cons_zero, List.getElem?_cons_succ, List.getElem?_nil, dec_le, dec_le', dec_lt, dec_lt', dec_eq, dec_ne, -getElem?_pos, -getElem?_neg, et, c1, c2, dTold, hf, dSt, -List.map_take, -List.map_drop] at e1 e2 e ⊢
  simp -implicitDefEqProofs (disch := decreasing_trivial_pre_omega) [List.findIdx?_cons, List.getElem?_cons_zero, List.getElem?_cons_succ, List.getElem?_nil, dec_le, dec_le', dec_lt, dec_lt', dec_eq, dec_ne, -getElem?_pos, -getElem?_neg, e1, e2, c2, dSt, -List.map_take, -List.map_drop]
  exact e
theorem law_17 (c : Cs) (hd : Dist c) (ns : List Int) (hb : ns.length < 1000000) {k : Int} {t : Told} (ht : t.ok2) (hS : hasS t.S 33 = false) {ls : List (List Nat)} (h : ∀ l ∈ ls, inSigns t l = true) (hl : ls.length ≤ 63) {a0 a8 a9 a12 a13 a14 a15 a16 a17 a18 a19 a20 a22 a23 a24 x10 x11 : Sl} : Good (T_law_17 c [a0, .va none (drw ns k).1 (drw ns k).2, .va none .f (.str t.S), .va none .f (dTold t), .va none .f (dBook c t), .va none .f (.lst (ls.map fun l => .str (mkS l))), .va none .f (.lst ((textM t [t.first] ls).1.map dDue)), .va none .f (dSt (textM t [t.first] ls).2), a8, a9, x10, x11, a12, a13, a14, a15, a16, a17, a18, a19, a20, .no, a22, a23, a24, .no]) := by
  have e1 := painted_ c ht h (by omega)
  have hdue := textM_due ht ls (stFirst ht) fun l hl => in_len (h l hl)
  have hn := (textM_ok ht ls (stFirst ht)).2.1
  have e2 := law_paints c hdue (by omega) (a0 := a0) (a1 := .va none (drw ns k).1 (drw ns k).2) (a2 := .va none .f (.str t.S)) (a3 := .va none .f (dTold t)) (a4 := .va none .f (dBook c t)) (a5 := .va none .f (.lst (ls.map fun l => .str (mkS l)))) (a6 := .va none .f (.lst ((textM t [t.first] ls).1.map dDue))) (a7 := .va none .f (dSt (textM t [t.first] ls).2)) (a8 := a8) (a9 := a9) (a12 := a12) (a13 := a13) (a15 := a15) (a16 := a16) (a17 := a17) (a18 := a18) (a19 := a19) (a20 := a20) (a21 := .no) (a22 := a22) (a23 := a23) (a24 := a24)
  have e3 : mergeD [] [((.str "red" : D), (.str "r" : D)), (.str "dim", .str "d")] = paintsD := by
    rw [mergeD_nil (by simp)]
    rfl
  have e4 := ne_same (a := (.f, .lst ((textM t [t.first] ls).1.map fun p => .str (paintLine p.2)))) (b := (.o .f, .lst ((textM t [t.first] ls).1.map fun p => .str (paintLine p.2)))) rfl rfl (by simp) (by simp)
  obtain ⟨ρ', e⟩ := law_15 c hd ns hb (k := k) ht hS h hl (a0 := a0) (a8 := a8) (a9 := a9) (a10 := .no) (a11 := .no) (a12 := a12) (a13 := a13) (a14 := .va none .f (.dct paintsD)) (a15 := a15) (a16 := a16) (a17 := a17) (a18 := a18) (a19 := a19) (a20 := a20) (a22 := a22) (a23 := a23) (a24 := a24) (a25 := .no)
  refine ⟨ρ', ?_⟩
  unfold T_law_17 T_law_16 T_law_9
  simp -implicitDefEqProofs (disch := decreasing_trivial_pre_omega) [List.findIdx?_cons, List.getElem?_cons_zero, List.getElem?_cons_succ, List.getElem?_nil, dec_le, dec_le', dec_lt, dec_lt', dec_eq, dec_ne, -getElem?_pos, -getElem?_neg, prsE, e3, -neDD_ap] at e2 ⊢
  simp -implicitDefEqProofs (disch := decreasing_trivial_pre_omega) [List.findIdx?_cons, List.getElem?_cons_zero, List.getElem?_cons_succ, List.getElem?_nil, dec_le, dec_le', dec_lt, dec_lt', dec_eq, dec_ne, -getElem?_pos, -getElem?_neg, e1, e2, e4, -neDD_ap]
  exact e
end K02

namespace K02
open PySem PySem.Spec PyProof.Rows L2 FL
local macro_rules | `(tactic| decreasing_trivial_pre_omega) => `(tactic| first | omega | (simp only [List.length_map, List.length_append, List.length_cons, List.length_nil, List.length_replicate, List.length_take, List.length_drop, mkS_length]; omega))
theorem law_20 (c : Cs) (hd : Dist c) (ns : List Int) (hb : ns.length < 1000000) {k : Int} {t : Told} (ht : t.ok2) (hS : hasS t.S 33 = false) {ls : List (List Nat)} (h : ∀ l ∈ ls, inSigns t l = true) (hl : ls.length ≤ 63) {a0 a8 a9 a13 a14 a15 a16 a17 a19 a20 a22 a23 x10 x11 x12 : Sl} : Good (T_law_20 c [a0, .va none (drw ns k).1 (drw ns k).2, .va none .f (.str t.S), .va none .f (dTold t), .va none .f (dBook c t), .va none .f (.lst (ls.map fun l => .str (mkS l))), .va none .f (.lst ((textM t [t.first] ls).1.map dDue)), .va none .f (dSt (textM t [t.first] ls).2), a8, a9, x10, x11, x12, a13, a14, a15, a16, a17, .no, a19, a20, .no, a22, a23, .no, .no]) := by
  have hdue := textM_due ht ls (stFirst ht) fun l hl => in_len (h l hl)
  have hn := (textM_ok ht ls (stFirst ht)).2.1
  obtain ⟨y10, y11, y12, e1⟩ := law_texts c (t := t) (a0 := a0) (a1 := .va none (drw ns k).1 (drw ns k).2) (a2 := .va none .f (.str t.S)) (a3 := .va none .f (dTold t)) (a4 := .va none .f (dBook c t)) (a5 := .va none .f (.lst (ls.map fun l => .str (mkS l)))) (a6 := .va none .f (.lst ((textM t [t.first] ls).1.map dDue))) (a7 := .va none .f (dSt (textM t [t.first] ls).2)) (a8 := a8) (a9 := a9) (a14 := a14) (a15 := a15) (a16 := a16) (a17 := a17) (a19 := a19) (a20 := a20) (a21 := .no) (a22 := a22) (a23 := a23) (textM t [t.first] ls).1 [] x10 x11 x12 hdue (by simp; omega)
  have e2 := write_spans_ c ht h (by omega)
  have e3 := texts_join hdue (by omega) (m := .o .f) rfl
  have e4 := ne_same (a := (.f, .str (Txt.join "\n" ((textM t [t.first] ls).1.map fun p => lineTxt p.2)))) (b := (.f, .str (Txt.join "\n" ((textM t [t.first] ls).1.map fun p => lineTxt p.2)))) rfl rfl (by simp) (by simp)
  obtain ⟨ρ', e⟩ := law_17 c hd ns hb (k := k) ht hS h hl (a0 := a0) (a8 := a8) (a9 := a9) (a12 := y12) (a13 := .va none (.o .f) (.lst (((textM t [t.first] ls).1.map fun p => lineTxt p.2).map .str))) (a14 := a14) (a15 := a15) (a16 := a16) (a17 := a17) (a18 := .no) (a19 := a19) (a20 := a20) (a22 := a22) (a23 := a23) (a24 := .no) (x10 := y10) (x11 := y11)
  refine ⟨ρ', ?_⟩
  unfold T_law_20 T_law_19 T_law_18
  simp -implicitDefEqProofs (disch := decreasing_trivial_pre_omega) [List.findIdx?_cons, List.getElem?_cons_zero, List.getElem?_cons_succ, List.getElem?_nil, dec_le, dec_le', dec_lt, dec_lt', dec_eq, dec_ne, -getElem?_pos, -getElem?_neg, -neDD_ap] at e1 e3 e ⊢
  simp -implicitDefEqProofs (disch := decreasing_trivial_pre_omega) [List.findIdx?_cons, List.getElem?_cons_zero, List.getElem?_cons_succ, List.getElem?_nil, dec_le, dec_le', dec_lt, dec_lt', dec_eq, dec_ne, -getElem?_pos, -getElem?_neg, e1, e2, e3, e4, e, -neDD_ap]
theorem textM_get {t : Told} (ht : t.ok2) : ∀ (ls : List (List Nat)) {st : List Str} (k : Nat) (l : List Nat), StOk t st → ls[k]? = some l → ∃ s, StOk t s ∧ (textM t st ls).1[k]? = some (s, (lineM t s l).1)
  | [], st, k, l, h, e => by simp at e
  | a :: ls, st, 0, l, h, e => by
    simp at e
    subst e
    exact ⟨st, h, rfl⟩
  | a :: ls, st, k + 1, l, h, e => by
    obtain ⟨s, h1, h2⟩ := textM_get ht ls k l (lineM_ok ht a h) (by simpa using e)
    exact ⟨s, h1, by simpa [textM] using h2⟩
theorem line_plain {cs st : List Str} : plainD (.tup [.tup (cs.map .str), dSt st]) = true := by simp [dSt]
theorem line_fit {cs st : List Str} : eqable 60 (.tup [.tup (cs.map .str), dSt st]) = true := by simp [dSt]
theorem strs_plain {cs : List Str} : plainD (.lst (cs.map .str)) = true := by simp
theorem strs_fit {cs : List Str} : eqable 60 (.lst (cs.map .str)) = true := by simp
theorem law_5 (c : Cs) (ns : List Int) {k : Int} {t : Told} (ht : t.ok2) {ls : List (List Nat)} (h : ∀ l ∈ ls, inSigns t l = true) (hl : ls.length ≤ 63) {n : Nat} {l : List Nat} (hn : ls[n]? = some l) {a0 a13 a14 a15 a16 a17 a18 a19 a20 a24 a25 x10 x11 x12 : Sl} : ∃ s, T_law_5 c [a0, .va none (drw ns k).1 (drw ns k).2, .va none .f (.str t.S), .va none .f (dTold t), .va none .f (dBook c t), .va none .f (.lst (ls.map fun l => .str (mkS l))), .va none .f (.lst ((textM t [t.first] ls).1.map dDue)), .va none .f (dSt (textM t [t.first] ls).2), .va none .f (.int (n : Nat)), .va none .f (.str (mkS l)), x10, x11, x12, a13, a14, a15, a16, a17, a18, a19, a20, .no, .no, .no, a24, a25] = .nx [a0, .va none (drw ns k).1 (drw ns k).2, .va none .f (.str t.S), .va none .f (dTold t), .va none .f (dBook c t), .va none .f (.lst (ls.map fun l => .str (mkS l))), .va none .f (.lst ((textM t [t.first] ls).1.map dDue)), .va none .f (dSt (textM t [t.first] ls).2), .va none .f (.int (n : Nat)), .va none .f (.str (mkS l)), .va none .f (dSt s), .va none .f (.tup ((lineM t s l).1.map .str)), .va none .f (.lst ((spansM (lineM t s l).1).map dSpan)), a13, a14, a15, a16, a17, a18, a19, a20, .no, .no, .no, a24, a25] := by
  obtain ⟨s, hs, hg⟩ := textM_get ht ls n l (stFirst ht) hn
  refine ⟨s, ?_⟩
  have hm := List.mem_of_getElem? hn
  have hin := h l hm
  have h80 := in_len hin
  have hlen := (walkM_ok ht l hs).2
  have hlen : (lineM t s l).1.length = l.length := hlen
  have hat : atI ((textM t [t.first] ls).1.map dDue) (n : Int) = some (dDue (s, (lineM t s l).1)) := by
    rw [atI_of_nat, List.getElem?_map, hg]
    rfl
  have e1 := colour_line_ c ht hs hin
  have e2 := law_line_ c ht hs (L := l) (by omega)
  have e3 := ne_same (a := (.f, .tup [.tup ((lineM t s l).1.map .str), dSt (lineM t s l).2])) (b := (.f, .tup [.tup ((lineM t s l).1.map .str), dSt (lineM t s l).2])) rfl rfl line_plain line_fit
  have e4 := spans_ c (cs := (lineM t s l).1) (by omega)
  have hinv := spans_inv (lineM t s l).1
  have hsl := spans_len (lineM t s l).1
  have e5 := spread_ c (f := spansM (lineM t s l).1) (by rw [hinv.sp]; omega) (fun x hx => by have := hinv.al x hx; omega)
  rw [hinv.sp] at e5
  have e6 := ne_same (a := (.f, .lst ((lineM t s l).1.map .str))) (b := (.o .f, .lst ((lineM t s l).1.map .str))) rfl rfl strs_plain strs_fit
  have e7 := pairs_false hinv.ch (by omega) (a0 := a0) (a1 := .va none (drw ns k).1 (drw ns k).2) (a2 := .va none .f (.str t.S)) (a3 := .va none .f (dTold t)) (a4 := .va none .f (dBook c t)) (a5 := .va none .f (.lst (ls.map fun l => .str (mkS l)))) (a6 := .va none .f (.lst ((textM t [t.first] ls).1.map dDue))) (a7 := .va none .f (dSt (textM t [t.first] ls).2)) (a8 := .va none .f (.int (n : Nat))) (a9 := .va none .f (.str (mkS l))) (a10 := .va none .f (dSt s)) (a11 := .va none .f (.tup ((lineM t s l).1.map .str))) (a12 := .va none .f (.lst ((spansM (lineM t s l).1).map dSpan))) (a13 := a13) (a14 := a14) (a15 := a15) (a16 := a16) (a17 := a17) (a18 := a18) (a19 := a19) (a20 := a20) (a21 := .no) (a24 := a24) (a25 := a25)
  have e8 := zip_spans (spansM (lineM t s l).1)
  have hc1 : cutD ((spansM (lineM t s l).1).map dSpan) (some 1) none = ((spansM (lineM t s l).1).map dSpan).drop 1 := cutD_drop (by decide)
  have e9 := ne_same (a := (.f, .int (l.length : Nat))) (b := (.f, .int (l.length : Nat))) rfl rfl (by simp) (by simp)
  have hany : ((spansM (lineM t s l).1).zip ((spansM (lineM t s l).1).drop 1)).any (fun _ => false) = false := by simp
  have hfirst : spansM (lineM t s l).1 = [] ∨ ∃ x r, spansM (lineM t s l).1 = x :: r ∧ x.1 = 0 := by
    cases hq : spansM (lineM t s l).1 with
    | nil => exact .inl rfl
    | cons x r => exact .inr ⟨x, r, rfl, hinv.hd x (by rw [hq]; rfl)⟩
  unfold T_law_5 T_law_4 T_law_3 T_law_2 T_law_1
  simp -implicitDefEqProofs (disch := decreasing_trivial_pre_omega) [List.findIdx?_cons, List.getElem?_cons_zero, List.getElem?_cons_succ, List.getElem?_nil, dec_le, dec_le', dec_lt, dec_lt', dec_eq, dec_ne, -getElem?_pos, -getElem?_neg, hat, dDue, e1, e2, e3, e4, e5, e6, hlen, hc1, e8, -neDD_ap, -List.map_drop, -List.drop_one] at e7 e9 ⊢
  simp -implicitDefEqProofs (disch := decreasing_trivial_pre_omega) [List.findIdx?_cons, List.getElem?_cons_zero, List.getElem?_cons_succ, List.getElem?_nil, dec_le, dec_le', dec_lt, dec_lt', dec_eq, dec_ne, -getElem?_pos, -getElem?_neg, e4, e5, e6, e7, e8, e9, hc1, -neDD_ap, -List.map_drop, -List.drop_one]
  rcases hfirst with hq | ⟨⟨x1, x2, x3⟩, r, hq, hx⟩
  · simp -implicitDefEqProofs (disch := decreasing_trivial_pre_omega) [List.findIdx?_cons, List.getElem?_cons_zero, List.getElem?_cons_succ, List.getElem?_nil, dec_le, dec_le', dec_lt, dec_lt', dec_eq, dec_ne, -getElem?_pos, -getElem?_neg, hq]
  · simp only at hx
    simp -implicitDefEqProofs (disch := decreasing_trivial_pre_omega) [List.findIdx?_cons, List.getElem?_cons_zero, List.getElem?_cons_succ, List.getElem?_nil, dec_le, dec_le', dec_lt, dec_lt', dec_eq, dec_ne, -getElem?_pos, -getElem?_neg, hq, dSpan, hx]
end K02

namespace K02
open PySem PySem.Spec PyProof.Rows L2 FL
local macro_rules | `(tactic| decreasing_trivial_pre_omega) => `(tactic| first | omega | (simp only [List.length_map, List.length_append, List.length_cons, List.length_nil, List.length_replicate, List.length_take, List.length_drop, mkS_length]; omega))
theorem law_21 (c : Cs) (hd : Dist c) (ns : List Int) (hb : ns.length < 1000000) {k : Int} {t : Told} (ht : t.ok2) (hS : hasS t.S 33 = false) {ls : List (List Nat)} (h : ∀ l ∈ ls, inSigns t l = true) (hl : ls.length ≤ 63) {a0 a13 a14 a15 a16 a17 a19 a20 : Sl} : Good (T_law_21 c [a0, .va none (drw ns k).1 (drw ns k).2, .va none .f (.str t.S), .va none .f (dTold t), .va none .f (dBook c t), .va none .f (.lst (ls.map fun l => .str (mkS l))), .va none .f (.lst ((textM t [t.first] ls).1.map dDue)), .va none .f (dSt (textM t [t.first] ls).2), .no, .no, .no, .no, .no, a13, a14, a15, a16, a17, .no, a19, a20, .no, .no, .no, .no, .no]) := by
  obtain ⟨ρ', e, x8, x9, x10, x11, x12, rfl⟩ := loop_along (tg := tupG 2 (consG (putG 8) (consG (putG 9) nilG))) (body := T_law_5 c) (enc := fun p : List Nat × Nat => .tup [.int (p.2 : Nat), .str (mkS p.1)]) (L := ls.zipIdx)
    (R := fun _ ρ => ∃ x8 x9 x10 x11 x12, ρ = [a0, .va none (drw ns k).1 (drw ns k).2, .va none .f (.str t.S), .va none .f (dTold t), .va none .f (dBook c t), .va none .f (.lst (ls.map fun l => .str (mkS l))), .va none .f (.lst ((textM t [t.first] ls).1.map dDue)), .va none .f (dSt (textM t [t.first] ls).2), x8, x9, x10, x11, x12, a13, a14, a15, a16, a17, .no, a19, a20, .no, .no, .no, .no, .no]) (by
      rintro pre ⟨l, n⟩ post ρ hL ⟨x8, x9, x10, x11, x12, rfl⟩
      have hn : ls[n]? = some l := by
        have hm : (l, n) ∈ ls.zipIdx := by rw [hL]; simp
        have := List.mk_mem_zipIdx_iff_getElem?.mp hm
        exact this
      obtain ⟨s, e⟩ := law_5 c ns (k := k) ht h hl hn (a0 := a0) (a13 := a13) (a14 := a14) (a15 := a15) (a16 := a16) (a17 := a17) (a18 := .no) (a19 := a19) (a20 := a20) (a24 := .no) (a25 := .no) (x10 := x10) (x11 := x11) (x12 := x12)
      exact ⟨[a0, .va none (drw ns k).1 (drw ns k).2, .va none .f (.str t.S), .va none .f (dTold t), .va none .f (dBook c t), .va none .f (.lst (ls.map fun l => .str (mkS l))), .va none .f (.lst ((textM t [t.first] ls).1.map dDue)), .va none .f (dSt (textM t [t.first] ls).2), .va none .f (.int (n : Nat)), .va none .f (.str (mkS l)), x10, x11, x12, a13, a14, a15, a16, a17, .no, a19, a20, .no, .no, .no, .no, .no], by simp, _, .inl e, _, _, _, _, _, rfl⟩) ls.zipIdx [] [a0, .va none (drw ns k).1 (drw ns k).2, .va none .f (.str t.S), .va none .f (dTold t), .va none .f (dBook c t), .va none .f (.lst (ls.map fun l => .str (mkS l))), .va none .f (.lst ((textM t [t.first] ls).1.map dDue)), .va none .f (dSt (textM t [t.first] ls).2), .no, .no, .no, .no, .no, a13, a14, a15, a16, a17, .no, a19, a20, .no, .no, .no, .no, .no] rfl ⟨_, _, _, _, _, rfl⟩
  rw [← enumD_eq (f := fun l => .str (mkS l))] at e
  obtain ⟨ρ', e2⟩ := law_20 c hd ns hb (k := k) ht hS h hl (a0 := a0) (a8 := x8) (a9 := x9) (a13 := a13) (a14 := a14) (a15 := a15) (a16 := a16) (a17 := a17) (a19 := a19) (a20 := a20) (a22 := .no) (a23 := .no) (x10 := x10) (x11 := x11) (x12 := x12)
  refine ⟨ρ', ?_⟩
  unfold T_law_21
  simp -implicitDefEqProofs (disch := decreasing_trivial_pre_omega) [List.findIdx?_cons, List.getElem?_cons_zero, List.getElem?_cons_succ, List.getElem?_nil, dec_le, dec_le', dec_lt, dec_lt', dec_eq, dec_ne, -getElem?_pos, -getElem?_neg] at e ⊢
  simp -implicitDefEqProofs (disch := decreasing_trivial_pre_omega) [List.findIdx?_cons, List.getElem?_cons_zero, List.getElem?_cons_succ, List.getElem?_nil, dec_le, dec_le', dec_lt, dec_lt', dec_eq, dec_ne, -getElem?_pos, -getElem?_neg, e, e2]
theorem law_23 (c : Cs) (hd : Dist c) (ns : List Int) (hb : ns.length < 1000000) {k : Int} {t : Told} (ht : t.ok2) (hS : hasS t.S 33 = false) {ls : List (List Nat)} (h : ∀ l ∈ ls, inSigns t l = true) (hl : ls.length ≤ 63) {a0 : Sl} : Good (T_law_23 c [a0, .va none (drw ns k).1 (drw ns k).2, .va none .f (.str t.S), .va none .f (dTold t), .va none .f (dBook c t), .va none .f (.lst (ls.map fun l => .str (mkS l))), .no, .no, .no, .no, .no, .no, .no, .no, .no, .no, .no, .no, .no, .no, .no, .no, .no, .no, .no, .no]) := by
  have hf := dct_get4 t
  have e1 := law_text_ c ht (stFirst ht) (ls := ls) (fun l hl => by have := in_len (h l hl); omega) (by omega)
  have e2 := colour_text_ c ht (.inl rfl) h (by omega)
  have e3 := colour_text_ c ht (.inr rfl) h (by omega)
  have e4 := colour_text_ c ht (w := .lst) (.inl rfl) (ls := []) (by simp) (by simp)
  have e5 := ne_same (a := (.f, .lst ((textM t [t.first] ls).1.map dDue))) (b := (.f, .lst ((textM t [t.first] ls).1.map dDue))) rfl rfl due_plain due_fit
  have e6 := ne_same (a := (.f, .lst [])) (b := (.o .f, .lst [])) rfl rfl (by simp) (by simp)
  obtain ⟨ρ', e⟩ := law_21 c hd ns hb (k := k) ht hS h hl (a0 := a0) (a13 := .no) (a14 := .no) (a15 := .no) (a16 := .no) (a17 := .no) (a19 := .no) (a20 := .no)
  refine ⟨ρ', ?_⟩
  unfold T_law_23 T_law_22
  simp -implicitDefEqProofs (disch := decreasing_trivial_pre_omega) [List.findIdx?_cons, List.getElem?_cons_zero, List.getElem?_cons_succ, List.getElem?_nil, dec_le, dec_le', dec_lt, dec_lt', dec_eq, dec_ne, -getElem?_pos, -getElem?_neg, dTold, hf, dSt, textM, -neDD_ap] at e1 e4 e ⊢
  simp -implicitDefEqProofs (disch := decreasing_trivial_pre_omega) [List.findIdx?_cons, List.getElem?_cons_zero, List.getElem?_cons_succ, List.getElem?_nil, dec_le, dec_le', dec_lt, dec_lt', dec_eq, dec_ne, -getElem?_pos, -getElem?_neg, e1, e2, e3, e4, e5, e6, e, dSt, -neDD_ap]
theorem signs_cases {x : D} (h : x ∈ [D.str "ab", D.str "abc", D.str "ab("]) : ∃ S : Str, x = .str S ∧ signsOk S ∧ hasS S 33 = false ∧ hasS S 10 = false := by
  simp only [List.mem_cons, List.not_mem_nil, or_false] at h
  rcases h with rfl | rfl | rfl
  · exact ⟨_, rfl, ⟨by decide, by decide, by decide, by decide⟩, by decide, by decide⟩
  · exact ⟨_, rfl, ⟨by decide, by decide, by decide, by decide⟩, by decide, by decide⟩
  · exact ⟨_, rfl, ⟨by decide, by decide, by decide, by decide⟩, by decide, by decide⟩
theorem len_ex {S : Str} (h : S.cps.size ≤ 6) : S.cps.toList.length ≤ 6 := by simpa using h
theorem law_27 (c : Cs) (hd : Dist c) (ns : List Int) (hb : ns.length < 1000000) : Good (T_law_27 c [.va (some 0) .f (.lst (ns.map .int)), .no, .no, .no, .no, .no, .no, .no, .no, .no, .no, .no, .no, .no, .no, .no, .no, .no, .no, .no, .no, .no, .no, .no, .no, .no]) := by
  obtain ⟨Sd, hSd, e1⟩ := pick_ c ns hb 0 [.str "ab", .str "abc", .str "ab("] (by simp) .f (.inl rfl)
  obtain ⟨S, rfl, hS, hx, _⟩ := signs_cases hSd
  rw [show (0 : Int) + 1 = 1 from rfl] at e1
  have hne : S.cps.toList ≠ [] := by
    intro e
    have := hS.l0
    have h0 := congrArg List.length e
    simp at h0
    rw [h0] at this
    simp at this
  have h3 : S.cps.toList.length ≤ 3 := by
    simp only [List.mem_cons, List.not_mem_nil, or_false, D.str.injEq] at hSd
    rcases hSd with rfl | rfl | rfl <;> decide
  obtain ⟨k1, t, rfl, ht, e2⟩ := told_ c ns hb 1 h3 hne
  have ht2 : t.ok2 := ⟨ht, hS⟩
  have e3 := law_book_ c ht2
  obtain ⟨k2, ls, h1, h2, e4⟩ := lines_ c ns hb k1 hS.l6 hne (many := 8) (most := 9) (by decide) (by decide) (by decide) (by decide)
  have hin : ∀ l ∈ ls, inSigns t l = true := by
    intro l hl
    obtain ⟨h5, h6⟩ := h2 l hl
    unfold inSigns
    rw [Bool.and_eq_true, decide_eq_true_iff, List.all_eq_true]
    exact ⟨by omega, h6⟩
  obtain ⟨ρ', e⟩ := law_23 c hd ns hb (k := k2) ht2 hx hin (by omega) (a0 := .va (some 0) .f (.lst (ns.map .int)))
  refine ⟨ρ', ?_⟩
  unfold T_law_27 T_law_26 T_law_25 T_law_24
  unfold drw at e1 e2 e4 e
  simp -implicitDefEqProofs (disch := decreasing_trivial_pre_omega) [List.findIdx?_cons, List.getElem?_cons_zero, List.getElem?_cons_succ, List.getElem?_nil, dec_le, dec_le', dec_lt, dec_lt', dec_eq, dec_ne, -getElem?_pos, -getElem?_neg, e1, e2, e3, e4, e]
theorem law_true {c : Cs} (hd : Dist c) (ns : List Int) (hl : ns.length ≤ 63) : ∃ as, f_law c [(.f, .lst (ns.map .int))] = .ret .f (.bl true) as := by
  obtain ⟨ρ', e⟩ := law_27 c hd ns (by omega)
  obtain ⟨as', eo⟩ := outs_one (ρ := ρ') (d := .lst (ns.map .int)) (j := 0)
  refine ⟨as', ?_⟩
  unfold f_law T_law
  rw [bodyF_ap]
  show bodyK _ (T_law_27 c [.va (some 0) .f (.lst (ns.map .int)), .no, .no, .no, .no, .no, .no, .no, .no, .no, .no, .no, .no, .no, .no, .no, .no, .no, .no, .no, .no, .no, .no, .no, .no, .no]) = _
  rw [e]
  show (match outsF ρ' 0 [((.f : M), D.lst (ns.map .int))] with
    | some as' => FO.ret .f (.bl true) as'
    | none => .no) = _
  rw [eo]
end K02

open PySem PySem.W PyProof.Rows in
set_option maxRecDepth 100000 in
set_option maxHeartbeats 0 in
theorem PySem.Challenge.cw_tintspans_k02_whole_colours_holds : PySem.Challenge.rw_tintspans_k02_whole_colours.Holds := by
  w_on; o_law; k_head; (case hw => w_witness2)
  k_fill
  refine' FL.walk_F (l := PySem.Challenge.rw_tintspans_k02_whole_colours) (n := 63) (k := 8) (x := "script") (f := K02.f_law ⟨_, _, _, _⟩) rfl (by decide) rfl ⟨rfl, by decide, by decide⟩ (fun w h Y => PySem.W.kIn_of Y) ?hno ?hf ?F
  case F =>
    intro w mg fa h X G hmg
    refine' K02.all_mk X G hmg ?c_Book ?no_Book_deep ?no_Book_first ?no_Book_modes ?no_Book_signs ?c_BadBook ?no_BadBook_part ?no_BadBook_mode ?no_BadBook_number ?c_BadText ?no_BadText_number ?c_BadName ?no_BadName_name ?hc_BadText ?xm_BadText_BadBook ?xm_BadText_BadText ?xm_BadText_BadName ?d__law_number ?d__law_take ?d__law_pick ?d__law_deed ?d__law_told ?d__law_row ?d__law_done ?d__law_line ?d__law_text ?d_BadBook___init__ ?d_is_row ?d_is_name ?d_is_deed ?d_are_signs ?d_are_nexts ?d_check_mode ?d_kept ?d_is_number ?d_Book___init__ ?d__law_book ?d__law_signs ?d__law_lines ?d_spans ?d_check_book ?d_BadText___init__ ?d_is_line ?d_check_lines ?d_Book_row ?d_Book_done ?d_Book_step ?d_Book_ended ?d_coloured ?d_colour_text ?d_write_spans ?d_BadName___init__ ?d_is_paint ?d_painted ?d__law_spread ?d_is_mode ?d_is_stack ?d_check_stack ?d_colour_line ?d_law ?g_FIGURES ?g_LETTERS ?g_MOST_DEEP ?g_MOST_LINES ?g_MOST_LONG ?g_MOST_MODES ?g_MOST_NEXTS ?g_MOST_ROWS ?g_MOST_SIGNS ?n_all ?n_any ?n_bool ?n_dict ?n_enumerate ?n_int ?n_isinstance ?n_len ?n_list ?n_range ?n_sorted ?n_str ?n_tuple ?n_zip
    (case c_Book => refine' FL.clsG X G ?za ?zpg ?zhd ?zpo ?zsa ?zha ?zhn ?zhtk ?zhm ?zhc ?zhy ?zs1 ?zs2 ?zs3 ?zs4 ?zs5 ?zs6 ?zs7 ?zt1 ?zt2 ?zt3 ?zt4 ?zt5 ?zt6 ?zt7; (case za => k_is); (case zpg => k_is); (case zhd => k_is); (case zpo => k_is); (case zsa => k_is); (case zha => k_is); (case zhn => k_is); (case zhtk => k_is); (case zhm => k_is); (case zhc => k_is); (case zhy => k_is); (case zs1 => k_is); (case zs2 => k_is); (case zs3 => k_is); (case zs4 => k_is); (case zs5 => k_is); (case zs6 => k_is); (case zs7 => k_is); (case zt1 => k_is); (case zt2 => k_is); (case zt3 => k_is); (case zt4 => k_is); (case zt5 => k_is); (case zt6 => k_is); (case zt7 => k_is))
    (case no_Book_deep => k_is)
    (case no_Book_first => k_is)
    (case no_Book_modes => k_is)
    (case no_Book_signs => k_is)
    (case c_BadBook => refine' FL.excG X G ?za ?zxL ?zhb ?zsa ?zeC ?ztC ?zkC ?zga ?zgg ?zhd; (case za => k_is); (case zxL => k_is); (case zhb => decide +kernel); (case zsa => k_is); (case zeC => k_is); (case ztC => k_is); (case zkC => k_is); (case zga => k_is); (case zgg => k_is); (case zhd => k_is))
    (case no_BadBook_part => k_is)
    (case no_BadBook_mode => k_is)
    (case no_BadBook_number => k_is)
    (case c_BadText => refine' FL.excG X G ?za ?zxL ?zhb ?zsa ?zeC ?ztC ?zkC ?zga ?zgg ?zhd; (case za => k_is); (case zxL => k_is); (case zhb => decide +kernel); (case zsa => k_is); (case zeC => k_is); (case ztC => k_is); (case zkC => k_is); (case zga => k_is); (case zgg => k_is); (case zhd => k_is))
    (case no_BadText_number => k_is)
    (case c_BadName => refine' FL.excG X G ?za ?zxL ?zhb ?zsa ?zeC ?ztC ?zkC ?zga ?zgg ?zhd; (case za => k_is); (case zxL => k_is); (case zhb => decide +kernel); (case zsa => k_is); (case zeC => k_is); (case ztC => k_is); (case zkC => k_is); (case zga => k_is); (case zgg => k_is); (case zhd => k_is))
    (case no_BadName_name => k_is)
    (case hc_BadText => k_is)
    (case xm_BadText_BadBook => k_is)
    (case xm_BadText_BadText => k_is)
    (case xm_BadText_BadName => k_is)
    (case d__law_number => refine' FL.defG X G ?za ?zl ?zc ?zk; (case za => k_is); (case zl => k_is); (case zc => k_is); (case zk => k_is))
    (case d__law_take => refine' FL.defG X G ?za ?zl ?zc ?zk; (case za => k_is); (case zl => k_is); (case zc => k_is); (case zk => k_is))
    (case d__law_pick => refine' FL.defG X G ?za ?zl ?zc ?zk; (case za => k_is); (case zl => k_is); (case zc => k_is); (case zk => k_is))
    (case d__law_deed => refine' FL.defG X G ?za ?zl ?zc ?zk; (case za => k_is); (case zl => k_is); (case zc => k_is); (case zk => k_is))
    (case d__law_told => refine' FL.defG X G ?za ?zl ?zc ?zk; (case za => k_is); (case zl => k_is); (case zc => k_is); (case zk => k_is))
    (case d__law_row => refine' FL.defG X G ?za ?zl ?zc ?zk; (case za => k_is); (case zl => k_is); (case zc => k_is); (case zk => k_is))
    (case d__law_done => refine' FL.defG X G ?za ?zl ?zc ?zk; (case za => k_is); (case zl => k_is); (case zc => k_is); (case zk => k_is))
    (case d__law_line => refine' FL.defG X G ?za ?zl ?zc ?zk; (case za => k_is); (case zl => k_is); (case zc => k_is); (case zk => k_is))
    (case d__law_text => refine' FL.defG X G ?za ?zl ?zc ?zk; (case za => k_is); (case zl => k_is); (case zc => k_is); (case zk => k_is))
    (case d_BadBook___init__ => refine' FL.initXG ?za ?zi ?zl ?zc ?zk; (case za => k_is); (case zi => k_is); (case zl => k_is); (case zc => k_is); (case zk => k_is))
    (case d_is_row => refine' FL.defG X G ?za ?zl ?zc ?zk; (case za => k_is); (case zl => k_is); (case zc => k_is); (case zk => k_is))
    (case d_is_name => refine' FL.defG X G ?za ?zl ?zc ?zk; (case za => k_is); (case zl => k_is); (case zc => k_is); (case zk => k_is))
    (case d_is_deed => refine' FL.defG X G ?za ?zl ?zc ?zk; (case za => k_is); (case zl => k_is); (case zc => k_is); (case zk => k_is))
    (case d_are_signs => refine' FL.defG X G ?za ?zl ?zc ?zk; (case za => k_is); (case zl => k_is); (case zc => k_is); (case zk => k_is))
    (case d_are_nexts => refine' FL.defG X G ?za ?zl ?zc ?zk; (case za => k_is); (case zl => k_is); (case zc => k_is); (case zk => k_is))
    (case d_check_mode => refine' FL.defG X G ?za ?zl ?zc ?zk; (case za => k_is); (case zl => k_is); (case zc => k_is); (case zk => k_is))
    (case d_kept => refine' FL.defG X G ?za ?zl ?zc ?zk; (case za => k_is); (case zl => k_is); (case zc => k_is); (case zk => k_is))
    (case d_is_number => refine' FL.defG X G ?za ?zl ?zc ?zk; (case za => k_is); (case zl => k_is); (case zc => k_is); (case zk => k_is))
    (case d_Book___init__ => refine' FL.initG ?za ?zi ?zl ?zc ?zk ?zmk ?zkc; (case za => k_is); (case zi => k_is); (case zl => k_is); (case zc => k_is); (case zk => k_is); (case zmk => k_is); (case zkc => k_is))
    (case d__law_book => refine' FL.defG X G ?za ?zl ?zc ?zk; (case za => k_is); (case zl => k_is); (case zc => k_is); (case zk => k_is))
    (case d__law_signs => refine' FL.defG X G ?za ?zl ?zc ?zk; (case za => k_is); (case zl => k_is); (case zc => k_is); (case zk => k_is))
    (case d__law_lines => refine' FL.defG X G ?za ?zl ?zc ?zk; (case za => k_is); (case zl => k_is); (case zc => k_is); (case zk => k_is))
    (case d_spans => refine' FL.defG X G ?za ?zl ?zc ?zk; (case za => k_is); (case zl => k_is); (case zc => k_is); (case zk => k_is))
    (case d_check_book => refine' FL.defG X G ?za ?zl ?zc ?zk; (case za => k_is); (case zl => k_is); (case zc => k_is); (case zk => k_is))
    (case d_BadText___init__ => refine' FL.initXG ?za ?zi ?zl ?zc ?zk; (case za => k_is); (case zi => k_is); (case zl => k_is); (case zc => k_is); (case zk => k_is))
    (case d_is_line => refine' FL.defG X G ?za ?zl ?zc ?zk; (case za => k_is); (case zl => k_is); (case zc => k_is); (case zk => k_is))
    (case d_check_lines => refine' FL.defG X G ?za ?zl ?zc ?zk; (case za => k_is); (case zl => k_is); (case zc => k_is); (case zk => k_is))
    (case d_Book_row => refine' FL.methG ?za ?zi ?zl ?zc ?zk; (case za => k_is); (case zi => k_is); (case zl => k_is); (case zc => k_is); (case zk => k_is))
    (case d_Book_done => refine' FL.methG ?za ?zi ?zl ?zc ?zk; (case za => k_is); (case zi => k_is); (case zl => k_is); (case zc => k_is); (case zk => k_is))
    (case d_Book_step => refine' FL.methG ?za ?zi ?zl ?zc ?zk; (case za => k_is); (case zi => k_is); (case zl => k_is); (case zc => k_is); (case zk => k_is))
    (case d_Book_ended => refine' FL.methG ?za ?zi ?zl ?zc ?zk; (case za => k_is); (case zi => k_is); (case zl => k_is); (case zc => k_is); (case zk => k_is))
    (case d_coloured => refine' FL.defG X G ?za ?zl ?zc ?zk; (case za => k_is); (case zl => k_is); (case zc => k_is); (case zk => k_is))
    (case d_colour_text => refine' FL.defG X G ?za ?zl ?zc ?zk; (case za => k_is); (case zl => k_is); (case zc => k_is); (case zk => k_is))
    (case d_write_spans => refine' FL.defG X G ?za ?zl ?zc ?zk; (case za => k_is); (case zl => k_is); (case zc => k_is); (case zk => k_is))
    (case d_BadName___init__ => refine' FL.initXG ?za ?zi ?zl ?zc ?zk; (case za => k_is); (case zi => k_is); (case zl => k_is); (case zc => k_is); (case zk => k_is))
    (case d_is_paint => refine' FL.defG X G ?za ?zl ?zc ?zk; (case za => k_is); (case zl => k_is); (case zc => k_is); (case zk => k_is))
    (case d_painted => refine' FL.defG X G ?za ?zl ?zc ?zk; (case za => k_is); (case zl => k_is); (case zc => k_is); (case zk => k_is))
    (case d__law_spread => refine' FL.defG X G ?za ?zl ?zc ?zk; (case za => k_is); (case zl => k_is); (case zc => k_is); (case zk => k_is))
    (case d_is_mode => refine' FL.defG X G ?za ?zl ?zc ?zk; (case za => k_is); (case zl => k_is); (case zc => k_is); (case zk => k_is))
    (case d_is_stack => refine' FL.defG X G ?za ?zl ?zc ?zk; (case za => k_is); (case zl => k_is); (case zc => k_is); (case zk => k_is))
    (case d_check_stack => refine' FL.defG X G ?za ?zl ?zc ?zk; (case za => k_is); (case zl => k_is); (case zc => k_is); (case zk => k_is))
    (case d_colour_line => refine' FL.defG X G ?za ?zl ?zc ?zk; (case za => k_is); (case zl => k_is); (case zc => k_is); (case zk => k_is))
    (case d_law => refine' FL.defG X G ?za ?zl ?zc ?zk; (case za => k_is); (case zl => k_is); (case zc => k_is); (case zk => k_is))
    (case g_FIGURES => k_is)
    (case g_LETTERS => k_is)
    (case g_MOST_DEEP => k_is)
    (case g_MOST_LINES => k_is)
    (case g_MOST_LONG => k_is)
    (case g_MOST_MODES => k_is)
    (case g_MOST_NEXTS => k_is)
    (case g_MOST_ROWS => k_is)
    (case g_MOST_SIGNS => k_is)
    (case n_all => k_is)
    (case n_any => k_is)
    (case n_bool => k_is)
    (case n_dict => k_is)
    (case n_enumerate => k_is)
    (case n_int => k_is)
    (case n_isinstance => k_is)
    (case n_len => k_is)
    (case n_list => k_is)
    (case n_range => k_is)
    (case n_sorted => k_is)
    (case n_str => k_is)
    (case n_tuple => k_is)
    (case n_zip => k_is)
  case hno => exact fun p => rfl
  case hf => exact fun ns hl => K02.law_true (by decide) ns hl

